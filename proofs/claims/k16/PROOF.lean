import PyProof.Rows.All
import Wide.All
import OpenK.AllK
import Wide.FinOn
import HandS.ForMost
import HandS.ForExc
import HandS.Lambda
import HandS.TupAny
import HandS.IsInst
import HandS.Deep
import HandS.Conv
import HandS.Codes
import HandS.Keys
import HandS.Defaults
import HandS.SetKeys
import HandS.ExcCtx
import KE.SortKeyHeap
import KE.SortData
import HandS.SortKw
import HandS.Style
import KE.KStateDown
import HandS.Head0
import HandS.Head1
import HandS.Head2
import HandS.HeadEnd
import HandS.HeadHook4
import HandS.HeadWalk
import HandS.NestedK
import HandS.Hot
import HandS.HotCalls
import HandS.ExcIs
import PySem.Challenge.RW_crosscalls_k16_free_moments
import Lean
set_option Elab.async false
set_option linter.all false
set_option maxRecDepth 100000
set_option maxHeartbeats 0
/-! ### data: tuples are values; what changes is an address -/
namespace Cc
open PySem PySem.Spec PyProof.Rows L2

inductive D where
  | non | bl (b : Bool) | int (i : Int) | str (x : Str) | ty (n : String) | ref (a : Addr) | tup (l : List D) | rol (l : List D) | wol (l : List D) | key (ks : List Key) | rod (kvs : List (Key × D))

/-- what the top wrote, and the tables of code objects with their names -/
abbrev KT : Type := PySem.W.Frag × List (Addr × Str)
/-- a list that nobody changes: known, or written -/
def SqR (K : PySem.W.Frag) (H : Hp) (a : Addr) (xs : List V) : Prop :=
  (∃ o, H a = some (.frz o (.lst xs))) ∨ ∃ o its n, K.lookup a = some o ∧ o.cls = Value.type "list" ∧ o.dict = none ∧ o.data = Data.seq its n ∧ its.size ≤ sizeLine ∧ Vals xs its.toList
theorem SqR.sqL {K : PySem.W.Frag} {H : Hp} {a : Addr} {xs : List V} (h : SqR K H a xs) : SqL K H a xs := by
  rcases h with ⟨o, h⟩ | h
  · exact .inl (.inr ⟨o, h⟩)
  · exact .inr h

/-- a list that is locked -/
def SqF (H : Hp) (a : Addr) (xs : List V) : Prop := ∃ o, H a = some (.frz o (.lst xs))
theorem SqF.sqL {K : PySem.W.Frag} {H : Hp} {a : Addr} {xs : List V} (h : SqF H a xs) : SqL K H a xs := by
  obtain ⟨o, h⟩ := h
  exact .inl (.inr ⟨o, h⟩)
mutual
inductive Dv (K : KT) (H : Hp) : V → D → Prop
  | non : Dv K H .non .non
  | bl (b : Bool) : Dv K H (.bl b) (.bl b)
  | int (i : Int) : Dv K H (.int i) (.int i)
  | str (x : Str) : Dv K H (.str x) (.str x)
  | ty (n : String) : Dv K H (.ty n) (.ty n)
  | ref (a : Addr) : Dv K H (.ref a) (.ref a)
  | tup {a : Addr} {xs : List V} {l : List D} : SqT K.1 H a xs → DvL K H xs l → Dv K H (.ref a) (.tup l)
  | rol {a : Addr} {xs : List V} {l : List D} : SqF H a xs → DvL K H xs l → Dv K H (.ref a) (.rol l)
  | wol {a : Addr} {xs : List V} {l : List D} : SqR K.1 H a xs → DvL K H xs l → Dv K H (.ref a) (.wol l)
  | key {a : Addr} {ks : List Key} : H a = some (.tup (ks.map kV)) → Dv K H (.ref a) (.key ks)
  | rod {a : Addr} {ys : List (Key × V)} {kvs : List (Key × D)} : (∃ o, H a = some (.frz o (.dK ys))) → DvK K H ys kvs → Dv K H (.ref a) (.rod kvs)
inductive DvL (K : KT) (H : Hp) : List V → List D → Prop
  | nil : DvL K H [] []
  | cons {v : V} {vs : List V} {d : D} {ds : List D} : Dv K H v d → DvL K H vs ds → DvL K H (v :: vs) (d :: ds)
inductive DvK (K : KT) (H : Hp) : List (Key × V) → List (Key × D) → Prop
  | nil : DvK K H [] []
  | cons {k : Key} {v : V} {vs : List (Key × V)} {d : D} {ds : List (Key × D)} : Dv K H v d → DvK K H vs ds → DvK K H ((k, v) :: vs) ((k, d) :: ds)
end

/-- what no step undoes -/
structure Up (H H' : Hp) : Prop where
  tups : ∀ a xs, H a = some (.tup xs) → H' a = some (.tup xs)
  frzs : ∀ a o u, H a = some (.frz o u) → H' a = some (.frz o u)
  code : ∀ a q, H a = some (LamX.CodeO a q) → H' a = some (LamX.CodeO a q)
/-- what values lean on -/
structure Up0 (H H' : Hp) : Prop where
  tups : ∀ a xs, H a = some (.tup xs) → H' a = some (.tup xs)
  frzL : ∀ a o u, H a = some (.frz o (.lst u)) → H' a = some (.frz o (.lst u))
  frzK : ∀ a o u, H a = some (.frz o (.dK u)) → H' a = some (.frz o (.dK u))
theorem Up.up0 {H H' : Hp} (u : Up H H') : Up0 H H' := ⟨u.tups, fun a o x h => u.frzs a o _ h, fun a o x h => u.frzs a o _ h⟩
theorem Up.refl (H : Hp) : Up H H := ⟨fun _ _ h => h, fun _ _ _ h => h, fun _ _ h => h⟩
theorem Up.trans {H H1 H2 : Hp} (a : Up H H1) (b : Up H1 H2) : Up H H2 :=
  ⟨fun c xs h => b.tups c xs (a.tups c xs h), fun c o u h => b.frzs c o u (a.frzs c o u h), fun c q h => b.code c q (a.code c q h)⟩
theorem Up.new {H : Hp} {p : Addr} {o : HO} (h : H p = none) : Up H (upd H p o) :=
  ⟨fun a _ e => by rw [upd_ne (ne_of_none e h)]; exact e, fun a _ _ e => by rw [upd_ne (ne_of_none e h)]; exact e, fun a _ e => by rw [upd_ne (ne_of_none e h)]; exact e⟩
/-- what a store may change -/
def Wr : HO → Prop
  | .lst _ => True
  | .dK _ => True
  | .dT _ => True
  | .ins _ _ _ => True
  | .set _ _ => True
  | .xd _ => True
  | _ => False
theorem Up.put {H : Hp} {p : Addr} {o0 o : HO} (h : H p = some o0) (w : Wr o0) : Up H (upd H p o) := by
  have ne : ∀ a u, H a = some u → ¬ Wr u → a ≠ p := fun a u e n z => by
    subst z
    rw [h] at e
    cases e
    exact n w
  exact ⟨fun a xs e => by rw [upd_ne (ne a _ e (fun z => z))]; exact e, fun a _ _ e => by rw [upd_ne (ne a _ e (fun z => z))]; exact e,
    fun a _ e => by rw [upd_ne (ne a _ e (fun z => z))]; exact e⟩
section
variable {K : KT} {H H' H'' : Hp} {G G' : Addr → Option HO}
theorem Up.sqT {F : PySem.W.Frag} (u : Up H H') {a : Addr} {xs : List V} (h : SqT F H a xs) : SqT F H' a xs := by
  rcases h with (h | ⟨o, h⟩) | h
  · exact .inl (.inl (u.tups _ _ h))
  · exact .inl (.inr ⟨o, u.frzs _ _ _ h⟩)
  · exact .inr h
theorem Up.sqR {F : PySem.W.Frag} (u : Up H H') {a : Addr} {xs : List V} (h : SqR F H a xs) : SqR F H' a xs := by
  rcases h with ⟨o, h⟩ | h
  · exact .inl ⟨o, u.frzs _ _ _ h⟩
  · exact .inr h
theorem Up.sqF (u : Up H H') {a : Addr} {xs : List V} (h : SqF H a xs) : SqF H' a xs := by
  obtain ⟨o, h⟩ := h
  exact ⟨o, u.frzs _ _ _ h⟩
theorem Up0.sqT {F : PySem.W.Frag} (u : Up0 H H') (hf : ∀ a o xs, H a = some (.frz o (.tup xs)) → H' a = some (.frz o (.tup xs))) {a : Addr} {xs : List V} (h : SqT F H a xs) : SqT F H' a xs := by
  rcases h with (h | ⟨o, h⟩) | h
  · exact .inl (.inl (u.tups _ _ h))
  · exact .inl (.inr ⟨o, hf _ _ _ h⟩)
  · exact .inr h
theorem Up0.sqR {F : PySem.W.Frag} (u : Up0 H H') {a : Addr} {xs : List V} (h : SqR F H a xs) : SqR F H' a xs := by
  rcases h with ⟨o, h⟩ | h
  · exact .inl ⟨o, u.frzL _ _ _ h⟩
  · exact .inr h
mutual
theorem Dv.up0 (u : Up0 H H') (hf : ∀ a o xs, H a = some (.frz o (.tup xs)) → H' a = some (.frz o (.tup xs))) : ∀ {v : V} {d : D}, Dv K H v d → Dv K H' v d
  | _, _, .non => .non
  | _, _, .bl b => .bl b
  | _, _, .int i => .int i
  | _, _, .str x => .str x
  | _, _, .ty n => .ty n
  | _, _, .ref a => .ref a
  | _, _, .tup h r => .tup (u.sqT hf h) (DvL.up0 u hf r)
  | _, _, .rol h r => .rol (by obtain ⟨o, h⟩ := h; exact ⟨o, u.frzL _ _ _ h⟩) (DvL.up0 u hf r)
  | _, _, .wol h r => .wol (u.sqR h) (DvL.up0 u hf r)
  | _, _, .key h => .key (u.tups _ _ h)
  | _, _, .rod h r => .rod (by obtain ⟨o, h⟩ := h; exact ⟨o, u.frzK _ _ _ h⟩) (DvK.up0 u hf r)
theorem DvL.up0 (u : Up0 H H') (hf : ∀ a o xs, H a = some (.frz o (.tup xs)) → H' a = some (.frz o (.tup xs))) : ∀ {v : List V} {d : List D}, DvL K H v d → DvL K H' v d
  | _, _, .nil => .nil
  | _, _, .cons h r => .cons (Dv.up0 u hf h) (DvL.up0 u hf r)
theorem DvK.up0 (u : Up0 H H') (hf : ∀ a o xs, H a = some (.frz o (.tup xs)) → H' a = some (.frz o (.tup xs))) : ∀ {v : List (Key × V)} {d : List (Key × D)}, DvK K H v d → DvK K H' v d
  | _, _, .nil => .nil
  | _, _, .cons h r => .cons (Dv.up0 u hf h) (DvK.up0 u hf r)
end
theorem Dv.up (u : Up H H') {v : V} {d : D} (h : Dv K H v d) : Dv K H' v d := h.up0 u.up0 fun a o xs e => u.frzs a o _ e
theorem DvL.up (u : Up H H') {v : List V} {d : List D} (h : DvL K H v d) : DvL K H' v d := h.up0 u.up0 fun a o xs e => u.frzs a o _ e
theorem DvK.up (u : Up H H') {v : List (Key × V)} {d : List (Key × D)} (h : DvK K H v d) : DvK K H' v d := h.up0 u.up0 fun a o xs e => u.frzs a o _ e
/-- a key as a value -/
def kD : Key → D
  | .inl i => .int i
  | .inr x => .str x
theorem dv_kD (k : Key) : Dv K H (kV k) (kD k) := by
  cases k with
  | inl i => exact .int i
  | inr x => exact .str x
theorem dvL_kD : ∀ ks : List Key, DvL K H (ks.map kV) (ks.map kD)
  | [] => .nil
  | k :: ks => .cons (dv_kD k) (dvL_kD ks)
/-- a tuple's items -/
def D.tl : D → Option (List D)
  | .tup l => some l
  | .key ks => some (ks.map kD)
  | _ => none
theorem Dv.sqT {v : V} {d : D} {l : List D} (h : Dv K H v d) (e : d.tl = some l) : ∃ a xs, v = .ref a ∧ SqT K.1 H a xs ∧ DvL K H xs l := by
  cases h with
  | tup q r => cases e; exact ⟨_, _, rfl, q, r⟩
  | key q => cases e; exact ⟨_, _, rfl, SqT.of q, dvL_kD _⟩
  | _ => cases e
theorem DvL.length : ∀ {v : List V} {d : List D}, DvL K H v d → v.length = d.length
  | _, _, .nil => rfl
  | _, _, .cons _ r => congrArg (· + 1) (DvL.length r)
theorem DvL.append : ∀ {v w : List V} {d e : List D}, DvL K H v d → DvL K H w e → DvL K H (v ++ w) (d ++ e)
  | _, _, _, _, .nil, s => s
  | _, _, _, _, .cons h r, s => .cons h (DvL.append r s)
theorem DvL.get : ∀ {v : List V} {d : List D} {i : Nat} {x : D}, DvL K H v d → d[i]? = some x → ∃ u, v[i]? = some u ∧ Dv K H u x
  | _, _, _, _, .nil, e => by simp at e
  | _, _, 0, _, .cons h _, e => by simp at e; subst e; exact ⟨_, rfl, h⟩
  | _, _, i + 1, _, .cons _ r, e => by
    obtain ⟨u, h1, h2⟩ := DvL.get (i := i) r (by simpa using e)
    exact ⟨u, by simpa using h1, h2⟩
theorem DvL.get' : ∀ {v : List V} {d : List D} {i : Nat} {u : V}, DvL K H v d → v[i]? = some u → ∃ x, d[i]? = some x ∧ Dv K H u x
  | _, _, _, _, .nil, e => by simp at e
  | _, _, 0, _, .cons h _, e => by simp at e; subst e; exact ⟨_, rfl, h⟩
  | _, _, i + 1, _, .cons _ r, e => by
    obtain ⟨u, h1, h2⟩ := DvL.get' (i := i) r (by simpa using e)
    exact ⟨u, by simpa using h1, h2⟩
theorem DvL.set {u : V} {x : D} (h : Dv K H u x) : ∀ {v : List V} {d : List D} (i : Nat), DvL K H v d → DvL K H (v.set i u) (d.set i x)
  | _, _, _, .nil => .nil
  | _, _, 0, .cons _ r => .cons h r
  | _, _, i + 1, .cons g r => .cons g (DvL.set h i r)
theorem DvL.eraseIdx : ∀ {v : List V} {d : List D} (i : Nat), DvL K H v d → DvL K H (v.eraseIdx i) (d.eraseIdx i)
  | _, _, _, .nil => .nil
  | _, _, 0, .cons _ r => r
  | _, _, i + 1, .cons g r => .cons g (DvL.eraseIdx i r)
theorem DvL.take : ∀ {v : List V} {d : List D} (n : Nat), DvL K H v d → DvL K H (v.take n) (d.take n)
  | _, _, 0, _ => .nil
  | _, _, _ + 1, .nil => .nil
  | _, _, n + 1, .cons r t => .cons r (DvL.take n t)
theorem DvL.drop : ∀ {v : List V} {d : List D} (n : Nat), DvL K H v d → DvL K H (v.drop n) (d.drop n)
  | _, _, 0, r => r
  | _, _, _ + 1, .nil => .nil
  | _, _, n + 1, .cons _ t => DvL.drop n t
theorem DvL.dropLast {v : List V} {d : List D} (h : DvL K H v d) : DvL K H v.dropLast d.dropLast := by
  rw [List.dropLast_eq_take, List.dropLast_eq_take, h.length]
  exact h.take _
end

/-! ### cells -/
inductive C where
  | lst (l : List D)
  | dK (kvs : List (Key × D)) | dT (kvs : List (List Key × D))
  | ins (cl : Addr) (fs : List (Str × D))
  | xd (fs : List (Str × D))
abbrev DH := Addr → Option C
def updD (G : DH) (a : Addr) (c : C) : DH := fun b => if b = a then some c else G b
theorem updD_same {G : DH} {a : Addr} {c : C} : updD G a c a = some c := by unfold updD; rw [if_pos rfl]
theorem updD_ne {G : DH} {a b : Addr} {c : C} (h : b ≠ a) : updD G a c b = G b := by unfold updD; rw [if_neg h]
theorem updD_updD {G : DH} {a : Addr} {c d : C} : updD (updD G a c) a d = updD G a d := by
  funext b; unfold updD; split <;> rfl
def Sub (G G' : DH) : Prop := ∀ a c, G a = some c → G' a = some c
theorem Sub.refl (G : DH) : Sub G G := fun _ _ h => h
theorem Sub.trans {G G1 G2 : DH} (a : Sub G G1) (b : Sub G1 G2) : Sub G G2 := fun x c h => b x c (a x c h)
theorem Sub.new {G : DH} {p : Addr} {c : C} (h : G p = none) : Sub G (updD G p c) := fun a u e => by
  rw [updD_ne (fun z => by subst z; rw [h] at e; cases e)]
  exact e
theorem neD {G : DH} {a b : Addr} {c : C} (h : G a = some c) (h' : G b = none) : a ≠ b := fun z => by
  subst z; rw [h] at h'; cases h'
theorem neDD {G : DH} {a b : Addr} {c d : C} (h : G a = some c) (h' : G b = some d) (n : c ≠ d) : a ≠ b := fun z => by
  subst z; rw [h] at h'; exact n (Option.some.inj h')
abbrev KVr (K : KT) (H : Hp) {κ : Type} : List (κ × V) → List (κ × D) → Prop := Paired fun p q => p.1 = q.1 ∧ Dv K H p.2 q.2
theorem DvK.kvr {K : KT} {H : Hp} : ∀ {ys : List (Key × V)} {kvs : List (Key × D)}, DvK K H ys kvs → KVr K H ys kvs
  | _, _, .nil => .nil
  | _, _, .cons h r => .cons ⟨rfl, h⟩ (DvK.kvr r)
theorem DvK.of {K : KT} {H : Hp} : ∀ {ys : List (Key × V)} {kvs : List (Key × D)}, KVr K H ys kvs → DvK K H ys kvs
  | _, _, .nil => .nil
  | (k, v) :: _, (j, d) :: _, .cons h r => by
    obtain ⟨e, h⟩ := h
    have e : k = j := e
    subst e
    exact .cons h (DvK.of r)
def CRel (K : KT) (H : Hp) (a : Addr) : C → Prop
  | .lst l => ∃ xs, H a = some (.lst xs) ∧ DvL K H xs l
  | .dK kvs => ∃ ys, H a = some (.dK ys) ∧ KVr K H ys kvs
  | .dT kvs => ∃ ys, H a = some (.dT ys) ∧ KVr K H ys kvs
  | .ins cl fs => ∃ dx ys, H a = some (.ins cl dx ys) ∧ KVr K H ys fs
  | .xd fs => ∃ ys, H a = some (.xd ys) ∧ KVr K H ys fs
structure HRel (K : KT) (G : DH) (H : Hp) : Prop where
  c : ∀ a c, G a = some c → CRel K H a c
  t : LamX.Tabs K.2 H
instance {K : KT} {G : DH} {H : Hp} : CoeFun (HRel K G H) (fun _ => ∀ a c, G a = some c → CRel K H a c) := ⟨HRel.c⟩
section
variable {K : KT} {H H' : Hp} {G G' : DH} {a p : Addr} {c : C} {o o0 : HO}
theorem KVr.up {κ : Type} (u : Up H H') {xs : List (κ × V)} {ys : List (κ × D)} (h : KVr K H xs ys) : KVr K H' xs ys :=
  Paired.mapP h fun _ _ q => ⟨q.1, q.2.up u⟩
theorem CRel.some (h : CRel K H a c) : ∃ o, H a = some o := by
  cases c with
  | lst l => obtain ⟨xs, e, _⟩ := h; exact ⟨_, e⟩
  | dK l => obtain ⟨xs, e, _⟩ := h; exact ⟨_, e⟩
  | dT l => obtain ⟨xs, e, _⟩ := h; exact ⟨_, e⟩
  | ins cl fs => obtain ⟨dx, xs, e, _⟩ := h; exact ⟨_, e⟩
  | xd l => obtain ⟨xs, e, _⟩ := h; exact ⟨_, e⟩
theorem CRel.stay (u : Up H H') (e : H' a = H a) (h : CRel K H a c) : CRel K H' a c := by
  cases c with
  | lst l => obtain ⟨xs, q, r⟩ := h; exact ⟨xs, e.trans q, r.up u⟩
  | dK l => obtain ⟨xs, q, r⟩ := h; exact ⟨xs, e.trans q, r.up u⟩
  | dT l => obtain ⟨xs, q, r⟩ := h; exact ⟨xs, e.trans q, r.up u⟩
  | ins cl fs => obtain ⟨dx, xs, q, r⟩ := h; exact ⟨dx, xs, e.trans q, r.up u⟩
  | xd l => obtain ⟨xs, q, r⟩ := h; exact ⟨xs, e.trans q, r.up u⟩
theorem tabs_new (h : LamX.Tabs K.2 H) (e : H p = Option.none) : LamX.Tabs K.2 (upd H p o) := h.ext fun b u z => by
  rw [upd_ne (ne_of_none z e)]; exact z
theorem tabs_put (h : LamX.Tabs K.2 H) (e : H p = some o0) (w : Wr o0) : LamX.Tabs K.2 (upd H p o) := fun x hx => by
  obtain ⟨ps, h1, h2, h3⟩ := h x hx
  have u : Up H (upd H p o) := Up.put e w
  refine ⟨ps, ?_, h2, fun pos cv z => ?_⟩
  · rw [upd_ne (fun z => by subst z; rw [h1] at e; cases e; exact w)]; exact h1
  · obtain ⟨c0, e1, e2⟩ := h3 pos cv z
    exact ⟨c0, e1, u.code _ _ e2⟩
theorem HRel.none (h : HRel K G H) (e : H p = Option.none) : G p = Option.none := by
  cases q : G p with
  | none => rfl
  | some c =>
    obtain ⟨o, z⟩ := (h p c q).some
    rw [e] at z; cases z
theorem HRel.new0 (h : HRel K G H) (e : H p = Option.none) : HRel K G (upd H p o) := ⟨fun a c q => by
  obtain ⟨u, z⟩ := (h a c q).some
  exact (h a c q).stay (Up.new e) (upd_ne (ne_of_none z e)), tabs_new h.t e⟩
theorem HRel.new (h : HRel K G H) (e : H p = Option.none) (r : CRel K (upd H p o) p c) : HRel K (updD G p c) (upd H p o) := ⟨fun a c' q => by
  by_cases hb : a = p
  · subst hb; rw [updD_same] at q; cases q; exact r
  · rw [updD_ne hb] at q
    exact (h a c' q).stay (Up.new e) (upd_ne hb), tabs_new h.t e⟩
theorem HRel.put (h : HRel K G H) (e : H p = some o0) (w : Wr o0) (r : CRel K (upd H p o) p c) : HRel K (updD G p c) (upd H p o) := ⟨fun a c' q => by
  by_cases hb : a = p
  · subst hb; rw [updD_same] at q; cases q; exact r
  · rw [updD_ne hb] at q
    exact (h a c' q).stay (Up.put e w) (upd_ne hb), tabs_put h.t e w⟩
theorem HRel.sub (h : HRel K G H) (s : Sub G' G) : HRel K G' H := ⟨fun a c q => h a c (s a c q), h.t⟩
end

/-! ### the lift -/
abbrev DS := List (Option D)
abbrev DK := D → DH → Prop
abbrev DX := Value → Option Addr → DH → Prop
abbrev DE := DS → DH → DK → DX → Prop
abbrev DT := DS → DH → (Bool → DH → Prop) → DX → Prop
abbrev DA := DS → DH → (List D → DH → Prop) → DX → Prop
structure DEnds where
  nx : DS → DH → Prop
  rt : DK
  bk : DS → DH → Prop := fun _ _ => False
  ct : DS → DH → Prop := fun _ _ => False
  ex : DX := fun _ _ _ => False
abbrev DSt := DEnds → DS → DH → Prop
abbrev SpD := List D → DH → DK → DX → Prop
abbrev D2 := D → D → DH → DK → Prop

def SRel (K : KT) (H : Hp) (σ : L2.St) (δ : DS) : Prop := σ.length = δ.length ∧ ∀ (i : Nat) (d : D), δ[i]? = some (some d) → ∃ v, σ[i]? = some (some v) ∧ Dv K H v d
def CloX (K : KT) (H : Hp) (E : XK) (EX : DX) : Prop := ∀ c o H' G', Up H H' → HRel K G' H' → EX c o G' → E c o H'
def CloR (K : KT) (H : Hp) (Q : VK) (R : DK) : Prop := ∀ v H' d G', Up H H' → HRel K G' H' → Dv K H' v d → R d G' → Q v H'
def CloB (K : KT) (H : Hp) (Q : Bool → Hp → Prop) (R : Bool → DH → Prop) : Prop := ∀ b H' G', Up H H' → HRel K G' H' → R b G' → Q b H'
def CloA (K : KT) (H : Hp) (Q : List V → Hp → Prop) (R : List D → DH → Prop) : Prop := ∀ v H' d G', Up H H' → HRel K G' H' → DvL K H' v d → R d G' → Q v H'
def CloS (K : KT) (H : Hp) (Q : L2.St → Hp → Prop) (R : DS → DH → Prop) : Prop := ∀ σ' H' δ' G', Up H H' → SRel K H' σ' δ' → HRel K G' H' → R δ' G' → Q σ' H'
def up (K : KT) (E : XK) (de : DE) : TE := fun σ H Q => ∃ δ G R EX, SRel K H σ δ ∧ HRel K G H ∧ de δ G R EX ∧ CloR K H Q R ∧ CloX K H E EX
def upT (K : KT) (E : XK) (de : DT) : TT := fun σ H Q => ∃ δ G R EX, SRel K H σ δ ∧ HRel K G H ∧ de δ G R EX ∧ CloB K H Q R ∧ CloX K H E EX
def upA (K : KT) (E : XK) (de : DA) : TA := fun σ H Q => ∃ δ G R EX, SRel K H σ δ ∧ HRel K G H ∧ de δ G R EX ∧ CloA K H Q R ∧ CloX K H E EX
def upS (K : KT) (E : XK) (ds : DSt) : TS := fun Dn σ H => ∃ δ G DD, SRel K H σ δ ∧ HRel K G H ∧ ds DD δ G ∧ CloS K H Dn.nx DD.nx ∧ CloR K H Dn.rt DD.rt ∧ CloS K H Dn.bk DD.bk ∧ CloS K H Dn.ct DD.ct ∧ CloX K H E DD.ex
def upF (K : KT) (sd : SpD) : Sp := fun vs H Q E => ∃ ds G R EX, DvL K H vs ds ∧ HRel K G H ∧ sd ds G R EX ∧ CloR K H Q R ∧ CloX K H E EX
section
variable {K : KT} {H H' : Hp} {σ : L2.St} {δ : DS}
theorem SRel.up (u : Up H H') (h : SRel K H σ δ) : SRel K H' σ δ := ⟨h.1, fun i d e => by
  obtain ⟨v, a, b⟩ := h.2 i d e
  exact ⟨v, a, b.up u⟩⟩
theorem SRel.set {i : Nat} {v : V} {d : D} (h : SRel K H σ δ) (r : Dv K H v d) : SRel K H (σ.set i (some v)) (δ.set i (some d)) := by
  refine ⟨by rw [List.length_set, List.length_set]; exact h.1, fun j e q => ?_⟩
  by_cases hb : i = j
  · subst hb
    by_cases hl : i < δ.length
    · rw [List.getElem?_set_self hl] at q
      cases q
      exact ⟨v, List.getElem?_set_self (by rw [h.1]; exact hl), r⟩
    · rw [List.getElem?_eq_none (by rw [List.length_set]; omega)] at q
      cases q
  · rw [List.getElem?_set_ne hb] at q ⊢
    exact h.2 j e q
theorem CloX.up {E : XK} {EX : DX} (u : Up H H') (h : CloX K H E EX) : CloX K H' E EX := fun c o H2 G2 u2 r q => h c o H2 G2 (u.trans u2) r q
theorem CloR.up {Q : VK} {R : DK} (u : Up H H') (h : CloR K H Q R) : CloR K H' Q R := fun v H2 d G2 u2 r q x => h v H2 d G2 (u.trans u2) r q x
theorem CloB.up {Q : Bool → Hp → Prop} {R : Bool → DH → Prop} (u : Up H H') (h : CloB K H Q R) : CloB K H' Q R := fun v H2 G2 u2 r x => h v H2 G2 (u.trans u2) r x
theorem CloA.up {Q : List V → Hp → Prop} {R : List D → DH → Prop} (u : Up H H') (h : CloA K H Q R) : CloA K H' Q R := fun v H2 d G2 u2 r q x => h v H2 d G2 (u.trans u2) r q x
theorem CloS.up {Q : L2.St → Hp → Prop} {R : DS → DH → Prop} (u : Up H H') (h : CloS K H Q R) : CloS K H' Q R := fun s H2 d G2 u2 r q x => h s H2 d G2 (u.trans u2) r q x
end
/-- the wish of an error, the tables -/
abbrev EK : Type := XK × List (Addr × Str)
abbrev kt (X : Cx) (E : EK) : KT := (X.K, E.2)
structure PD (X : Cx) (E : EK) (e : Expr) (de : DE) : Prop where
  pe : PE X e (up (kt X E) E.1 de)
structure PDT (X : Cx) (E : EK) (e : Expr) (de : DT) : Prop where
  pt : PT X e (upT (kt X E) E.1 de)
structure PDW (X : Cx) (E : EK) (e : Expr) (de : DT) : Prop where
  pw : PW X e (upT (kt X E) E.1 de)
structure PDA (X : Cx) (E : EK) (e : List Expr) (de : DA) : Prop where
  pa : PA X e (upA (kt X E) E.1 de)
structure PDS (X : Cx) (E : EK) (st : Stmt) (ds : DSt) : Prop where
  ps : PS X st (upS (kt X E) E.1 ds)
structure PDSs (X : Cx) (E : EK) (st : List Stmt) (ds : DSt) : Prop where
  ps : PSs X st (upS (kt X E) E.1 ds)
theorem imE {X : Cx} {e : Expr} {t u : TE} (h : PE X e t) (k : ∀ σ H Q, u σ H Q → t σ H Q) : PE X e u := ⟨fun pins s σ H Q I q => h.run pins s σ H Q I (k σ H Q q)⟩
theorem imT {X : Cx} {e : Expr} {t u : TT} (h : PT X e t) (k : ∀ σ H Q, u σ H Q → t σ H Q) : PT X e u := ⟨fun pins s σ H Q I q => h.run pins s σ H Q I (k σ H Q q)⟩
theorem imW {X : Cx} {e : Expr} {t u : TT} (h : PW X e t) (k : ∀ σ H Q, u σ H Q → t σ H Q) : PW X e u := ⟨fun w pins s σ H Q I q => h.run w pins s σ H Q I (k σ H Q q)⟩
theorem imA {X : Cx} {e : List Expr} {t u : TA} (h : PA X e t) (k : ∀ σ H Q, u σ H Q → t σ H Q) : PA X e u := ⟨fun w pins s σ H Q I q => h.run w pins s σ H Q I (k σ H Q q)⟩
theorem imS {X : Cx} {e : Stmt} {t u : TS} (h : PS X e t) (k : ∀ D σ H, u D σ H → t D σ H) : PS X e u := ⟨fun pins s σ H Q I q => h.run pins s σ H Q I (k Q σ H q)⟩
theorem imSs {X : Cx} {e : List Stmt} {t u : TS} (h : PSs X e t) (k : ∀ D σ H, u D σ H → t D σ H) : PSs X e u := ⟨fun pins s σ H Q I q => h.run pins s σ H Q I (k Q σ H q)⟩
end Cc
/-! ### the rules: expressions, tests, statements -/
namespace Cc
open PySem PySem.Spec PyProof.Rows L2
section
variable {X : Cx} {E : EK} {a b c e : Expr} {es rest : List Expr} {pos : Pos} {da db dc de : DE} {dA dB : DT} {dl : DA}
/-! names, constants -/
def dVar (i : Nat) : DE := fun δ G R _ => match δ[i]? with
  | some (some d) => R d G
  | _ => False
def dC (d : D) : DE := fun _ G R _ => R d G
theorem pd_var (i : Nat) {x : Str} (h : PE X (.Name x pos) (tVar i)) : PD X E (.Name x pos) (dVar i) := ⟨imE h fun σ H Q ⟨δ, G, R, EX, sr, hr, h, cr, cx⟩ => by
  unfold dVar at h
  split at h
  · rename_i d e
    obtain ⟨v, e1, r⟩ := sr.2 _ _ e
    exact ⟨v, e1, cr v H d G (Up.refl H) hr r h⟩
  · exact h.elim⟩
theorem pd_c {v : V} {d : D} (h : PE X e (tC v)) (hd : ∀ H, Dv (kt X E) H v d) : PD X E e (dC d) := ⟨imE h fun σ H Q ⟨δ, G, R, EX, sr, hr, h, cr, cx⟩ => cr v H d G (Up.refl H) hr (hd H) h⟩
theorem pd_int {i : Int} {j} : PD X E (.Constant (.int i) j pos) (dC (.int i)) := pd_c pe_int fun _ => .int i
theorem pd_bl {i : Bool} {j} : PD X E (.Constant (.bool i) j pos) (dC (.bl i)) := pd_c pe_bl fun _ => .bl i
theorem pd_str {i : Str} {j} : PD X E (.Constant (.str i) j pos) (dC (.str i)) := pd_c pe_str fun _ => .str i
theorem pd_non {j} : PD X E (.Constant .none j pos) (dC .non) := pd_c pe_non fun _ => .non
/-- a name of the module -/
def GloC (K : PySem.W.Frag) (mg : Str → Option Value) (x : Str) (d : D) : Prop := ∃ v u, mg x = some u ∧ RelV v u ∧ ∀ T H, Dv (K, T) H v d
theorem pd_glob {x : Str} {d : D} (hg : Gl X x) (hm : GloC X.K X.mg x d) (hd : (x == ("__debug__" : Str)) = false := by decide) : PD X E (.Name x pos) (dC d) := by
  obtain ⟨v, u, h1, h2, h3⟩ := hm
  exact pd_c (pe_glob hg h1 h2 hd) (h3 E.2)
/-! operators -/
def Lift2 (K : KT) (r : R2) (r2 : D2) : Prop := ∀ x y H d e G R Q, HRel K G H → Dv K H x d → Dv K H y e → r2 d e G R → CloR K H Q R → r x y H Q
def dOp (r : D2) (da db : DE) : DE := fun δ G R EX => da δ G (fun x G1 => db δ G1 (fun y G2 => r x y G2 R) EX) EX
theorem up_op {r : R2} {r2 : D2} (l : ∀ T, Lift2 (X.K, T) r r2) {σ : L2.St} {H : Hp} {Q : VK} : up (kt X E) E.1 (dOp r2 da db) σ H Q → tOp r (up (kt X E) E.1 da) (up (kt X E) E.1 db) σ H Q := fun ⟨δ, G, R, EX, sr, hr, h, cr, cx⟩ =>
  ⟨δ, G, _, EX, sr, hr, h, fun x H1 d G1 u1 h1 r1 q1 => ⟨δ, G1, _, EX, sr.up u1, h1, q1, fun y H2 e G2 u2 h2 r2 q2 => l _ x y H2 d e G2 R Q h2 (r1.up u2) r2 q2 (cr.up (u1.trans u2)), cx.up u1⟩, cx⟩
theorem pd_op {op : Operator} {r : R2} {r2 : D2} (ho : OpR X (binaryOp op) r) (l : ∀ T, Lift2 (X.K, T) r r2) (ha : PD X E a da) (hb : PD X E b db) : PD X E (.BinOp a op b pos) (dOp r2 da db) :=
  ⟨imE (pe_op ho ha.pe hb.pe) fun _ _ _ => up_op l⟩
theorem pd_cmp {op : CmpOp} {r : R2} {r2 : D2} (ho : OpR X (compareOp op) r) (l : ∀ T, Lift2 (X.K, T) r r2) (ha : PD X E a da) (hb : PD X E b db) (hm : behindInMarks op b = false) : PD X E (.Compare a [op] [b] pos) (dOp r2 da db) :=
  ⟨imE (pe_cmpR ho ha.pe hb.pe hm) fun _ _ _ => up_op l⟩
theorem pd_ix {r : R2} {r2 : D2} (hr : IxR X r) (l : ∀ T, Lift2 (X.K, T) r r2) (ha : PD X E a da) (hb : PD X E b db) (hs : PlainIx b) : PD X E (.Subscript a b pos) (dOp r2 da db) :=
  ⟨imE (pe_ix hr ha.pe hb.pe hs) fun _ _ _ => up_op l⟩
abbrev D1 := D → DH → DK → Prop
def Lift1 (K : KT) (r : V → Hp → VK → Prop) (r2 : D1) : Prop := ∀ x H d G R Q, HRel K G H → Dv K H x d → r2 d G R → CloR K H Q R → r x H Q
def dUn (r : D1) (da : DE) : DE := fun δ G R EX => da δ G (fun x G1 => r x G1 R) EX
theorem pd_un {op : UnaryOp} {r : V → Hp → VK → Prop} {r2 : D1} (ho : UnR X (unaryOp op) r) (l : ∀ T, Lift1 (X.K, T) r r2) (ha : PD X E a da) : PD X E (.UnaryOp op a pos) (dUn r2 da) :=
  ⟨imE (pe_un ho ha.pe) fun σ H Q ⟨δ, G, R, EX, sr, hr, h, cr, cx⟩ => ⟨δ, G, _, EX, sr, hr, h, fun x H1 d G1 u1 h1 r1 q1 => l _ x H1 d G1 R Q h1 r1 q1 (cr.up u1), cx⟩⟩
/-- a test from a truth value -/
def blD (R : Bool → DH → Prop) : DK := fun x G => match x with
  | .bl c => R c G
  | _ => False
theorem CloB.bl {H : Hp} {Q : Bool → Hp → Prop} {R : Bool → DH → Prop} (cr : CloB (kt X E) H Q R) : CloR (kt X E) H (fun x H' => ∃ c, x = .bl c ∧ Q c H') (blD R) := fun x H1 d G1 u1 h1 r1 q1 => by
  cases r1 with
  | bl c => exact ⟨c, rfl, cr c H1 G1 u1 h1 q1⟩
  | _ => exact False.elim q1
def dTest (da : DE) : DT := fun δ G R EX => da δ G (blD R) EX
theorem up_test {σ : L2.St} {H : Hp} {Q : Bool → Hp → Prop} : upT (kt X E) E.1 (dTest da) σ H Q → tTest (up (kt X E) E.1 da) σ H Q := fun ⟨δ, G, R, EX, sr, hr, h, cr, cx⟩ =>
  ⟨δ, G, _, EX, sr, hr, h, cr.bl, cx⟩
theorem pdt_cmp {op : CmpOp} {r : R2} {r2 : D2} (ho : OpR X (compareOp op) r) (l : ∀ T, Lift2 (X.K, T) r r2) (ha : PD X E a da) (hb : PD X E b db) (hm : behindInMarks op b = false) : PDT X E (.Compare a [op] [b] pos) (dTest (dOp r2 da db)) :=
  ⟨imT (pt_cmpR ho ha.pe hb.pe hm) fun σ H Q h => by
    obtain ⟨δ, G, R, EX, sr, hr, h, cr, cx⟩ := h
    exact up_op l ⟨δ, G, _, EX, sr, hr, h, cr.bl, cx⟩⟩
theorem pdt_val (h : PD X E e de) (he : ∀ whole, isTrue e X.env whole = (do let v ← whole; standAt e.pos; holding [v] (truthy v)) := by intro _; rfl) : PDT X E e (dTest de) :=
  ⟨imT (pt_val h.pe he) fun _ _ _ => up_test⟩
/-- a op b op' c -/
def dChain (r r' : D2) (da db dc : DE) : DE := fun δ G R EX => da δ G (fun x G1 => db δ G1 (fun y G2 => r x y G2 (blD fun k G3 => if k = true then dc δ G3 (fun u G4 => r' y u G4 R) EX else R (.bl false) G3)) EX) EX
theorem up_chain {r s : R2} {r2 s2 : D2} (l : ∀ T, Lift2 (X.K, T) r r2) (m : ∀ T, Lift2 (X.K, T) s s2) {σ : L2.St} {H : Hp} {Q : VK} : up (kt X E) E.1 (dChain r2 s2 da db dc) σ H Q → tChain r s (up (kt X E) E.1 da) (up (kt X E) E.1 db) (up (kt X E) E.1 dc) σ H Q := fun ⟨δ, G, R, EX, sr, hr, h, cr, cx⟩ =>
  ⟨δ, G, _, EX, sr, hr, h, fun x H1 d G1 u1 h1 r1 q1 => ⟨δ, G1, _, EX, sr.up u1, h1, q1, fun y H2 e G2 u2 h2 r2 q2 => l _ x y H2 d e G2 _ _ h2 (r1.up u2) r2 q2 fun z H3 f G3 u3 h3 r3 q3 => by
    cases r3 with
    | bl k =>
      refine ⟨k, rfl, ?_⟩
      have q3 : if k = true then dc δ G3 (fun u G4 => s2 e u G4 R) EX else R (.bl false) G3 := q3
      cases k with
      | true =>
        rw [if_pos rfl] at q3 ⊢
        exact ⟨δ, G3, _, EX, sr.up (u1.trans (u2.trans u3)), h3, q3, fun w H4 g G4 u4 h4 r4 q4 => m _ y w H4 e g G4 R Q h4 ((r2.up u3).up u4) r4 q4 (cr.up (u1.trans (u2.trans (u3.trans u4)))), cx.up (u1.trans (u2.trans u3))⟩
      | false =>
        rw [if_neg Bool.false_ne_true] at q3 ⊢
        exact cr (.bl false) H3 _ G3 (u1.trans (u2.trans u3)) h3 (.bl false) q3
    | _ => exact False.elim q3, cx.up u1⟩, cx⟩
theorem pd_chain {op op' : CmpOp} {r s : R2} {r2 s2 : D2} (ho : OpR X (compareOp op) r) (l : ∀ T, Lift2 (X.K, T) r r2) (ho' : OpR X (compareOp op') s) (m : ∀ T, Lift2 (X.K, T) s s2) (ha : PD X E a da) (hb : PD X E b db) (hc : PD X E c dc)
    (hm : lastMarks [op, op'] [b, c] = false := by with_unfolding_all rfl) : PD X E (.Compare a [op, op'] [b, c] pos) (dChain r2 s2 da db dc) := ⟨imE (pe_chain ho ho' ha.pe hb.pe hc.pe hm) fun _ _ _ => up_chain l m⟩
theorem pdt_chain {op op' : CmpOp} {r s : R2} {r2 s2 : D2} (ho : OpR X (compareOp op) r) (l : ∀ T, Lift2 (X.K, T) r r2) (ho' : OpR X (compareOp op') s) (m : ∀ T, Lift2 (X.K, T) s s2) (ha : PD X E a da) (hb : PD X E b db) (hc : PD X E c dc)
    (hm : lastMarks [op, op'] [b, c] = false := by with_unfolding_all rfl) : PDT X E (.Compare a [op, op'] [b, c] pos) (dTest (dChain r2 s2 da db dc)) := ⟨imT (pt_chain ho ho' ha.pe hb.pe hc.pe hm) fun σ H Q ⟨δ, G, R, EX, sr, hr, h, cr, cx⟩ => up_chain l m ⟨δ, G, _, EX, sr, hr, h, cr.bl, cx⟩⟩
/-! and, or, not -/
def dAnd (t u : DT) : DT := fun δ G R EX => t δ G (fun c G1 => if c = true then u δ G1 R EX else R false G1) EX
def dOr (t u : DT) : DT := fun δ G R EX => t δ G (fun c G1 => if c = true then R true G1 else u δ G1 R EX) EX
def dNot (t : DT) : DT := fun δ G R EX => t δ G (fun c G1 => R (!c) G1) EX
theorem pdw_and1 (ha : PDT X E a dA) : PDW X E (.BoolOp .And [a] pos) dA := ⟨pw_and1 ha.pt⟩
theorem pdw_or1 (ha : PDT X E a dA) : PDW X E (.BoolOp .Or [a] pos) dA := ⟨pw_or1 ha.pt⟩
theorem pdw_and (ha : PDT X E a dA) (hb : PDW X E (.BoolOp .And (b :: rest) pos) dB) : PDW X E (.BoolOp .And (a :: b :: rest) pos) (dAnd dA dB) :=
  ⟨imW (pw_and ha.pt hb.pw) fun σ H Q ⟨δ, G, R, EX, sr, hr, h, cr, cx⟩ => ⟨δ, G, _, EX, sr, hr, h, fun c H1 G1 u1 h1 q1 => by
    cases c with
    | true => rw [if_pos rfl] at q1 ⊢; exact ⟨δ, G1, R, EX, sr.up u1, h1, q1, cr.up u1, cx.up u1⟩
    | false => rw [if_neg Bool.false_ne_true] at q1 ⊢; exact cr _ _ _ u1 h1 q1, cx⟩⟩
theorem pdw_or (ha : PDT X E a dA) (hb : PDW X E (.BoolOp .Or (b :: rest) pos) dB) : PDW X E (.BoolOp .Or (a :: b :: rest) pos) (dOr dA dB) :=
  ⟨imW (pw_or ha.pt hb.pw) fun σ H Q ⟨δ, G, R, EX, sr, hr, h, cr, cx⟩ => ⟨δ, G, _, EX, sr, hr, h, fun c H1 G1 u1 h1 q1 => by
    cases c with
    | true => rw [if_pos rfl] at q1 ⊢; exact cr _ _ _ u1 h1 q1
    | false => rw [if_neg Bool.false_ne_true] at q1 ⊢; exact ⟨δ, G1, R, EX, sr.up u1, h1, q1, cr.up u1, cx.up u1⟩, cx⟩⟩
theorem pdt_not (ha : PDT X E a dA) : PDT X E (.UnaryOp .Not a pos) (dNot dA) :=
  ⟨imT (pt_not ha.pt) fun σ H Q ⟨δ, G, R, EX, sr, hr, h, cr, cx⟩ => ⟨δ, G, _, EX, sr, hr, h, fun c H1 G1 u1 h1 q1 => cr _ _ _ u1 h1 q1, cx⟩⟩
theorem PDW.pdt (h : PDW X E a dA) : PDT X E a dA := ⟨h.pw.pt⟩
def dAndV (da db : DE) : DE := fun δ G R EX => da δ G (blD fun c G1 => if c = true then db δ G1 R EX else R (.bl false) G1) EX
def dOrV (da db : DE) : DE := fun δ G R EX => da δ G (blD fun c G1 => if c = true then R (.bl true) G1 else db δ G1 R EX) EX
def dNotV (da : DE) : DE := fun δ G R EX => da δ G (blD fun c G1 => R (.bl (!c)) G1) EX
theorem pd_one {op} (h : PD X E a da) : PD X E (.BoolOp op [a] pos) da := ⟨pe_one h.pe⟩
theorem pd_and (ha : PD X E a da) (hb : PD X E (.BoolOp .And (b :: rest) pos) db) : PD X E (.BoolOp .And (a :: b :: rest) pos) (dAndV da db) :=
  ⟨imE (pe_and ha.pe hb.pe) fun σ H Q ⟨δ, G, R, EX, sr, hr, h, cr, cx⟩ => ⟨δ, G, _, EX, sr, hr, h, fun x H1 d G1 u1 h1 r1 q1 => by
    cases r1 with
    | bl c =>
      refine ⟨c, rfl, ?_⟩
      have q1 : if c = true then db δ G1 R EX else R (.bl false) G1 := q1
      cases c with
      | true => rw [if_pos rfl] at q1 ⊢; exact ⟨δ, G1, R, EX, sr.up u1, h1, q1, cr.up u1, cx.up u1⟩
      | false => rw [if_neg Bool.false_ne_true] at q1 ⊢; exact cr _ _ _ _ u1 h1 (.bl false) q1
    | _ => exact False.elim q1, cx⟩⟩
theorem pd_or (ha : PD X E a da) (hb : PD X E (.BoolOp .Or (b :: rest) pos) db) : PD X E (.BoolOp .Or (a :: b :: rest) pos) (dOrV da db) :=
  ⟨imE (pe_or ha.pe hb.pe) fun σ H Q ⟨δ, G, R, EX, sr, hr, h, cr, cx⟩ => ⟨δ, G, _, EX, sr, hr, h, fun x H1 d G1 u1 h1 r1 q1 => by
    cases r1 with
    | bl c =>
      refine ⟨c, rfl, ?_⟩
      have q1 : if c = true then R (.bl true) G1 else db δ G1 R EX := q1
      cases c with
      | true => rw [if_pos rfl] at q1 ⊢; exact cr _ _ _ _ u1 h1 (.bl true) q1
      | false => rw [if_neg Bool.false_ne_true] at q1 ⊢; exact ⟨δ, G1, R, EX, sr.up u1, h1, q1, cr.up u1, cx.up u1⟩
    | _ => exact False.elim q1, cx⟩⟩
theorem pd_not (ha : PD X E a da) : PD X E (.UnaryOp .Not a pos) (dNotV da) :=
  ⟨imE (pe_not ha.pe) fun σ H Q ⟨δ, G, R, EX, sr, hr, h, cr, cx⟩ => ⟨δ, G, _, EX, sr, hr, h, fun x H1 d G1 u1 h1 r1 q1 => by
    cases r1 with
    | bl c => exact ⟨c, rfl, cr _ _ _ _ u1 h1 (.bl _) q1⟩
    | _ => exact False.elim q1, cx⟩⟩
def dIf (t : DT) (da db : DE) : DE := fun δ G R EX => t δ G (fun c G1 => if c = true then da δ G1 R EX else db δ G1 R EX) EX
theorem pd_if (hc : PDT X E c dA) (ha : PD X E a da) (hb : PD X E b db) : PD X E (.IfExp c a b pos) (dIf dA da db) :=
  ⟨imE (pe_ifExp hc.pt ha.pe hb.pe) fun σ H Q ⟨δ, G, R, EX, sr, hr, h, cr, cx⟩ => ⟨δ, G, _, EX, sr, hr, h, fun c H1 G1 u1 h1 q1 => by
    cases c with
    | true => rw [if_pos rfl] at q1 ⊢; exact ⟨δ, G1, R, EX, sr.up u1, h1, q1, cr.up u1, cx.up u1⟩
    | false => rw [if_neg Bool.false_ne_true] at q1 ⊢; exact ⟨δ, G1, R, EX, sr.up u1, h1, q1, cr.up u1, cx.up u1⟩, cx⟩⟩
/-! arguments, displays -/
def dNil : DA := fun _ G R _ => R [] G
def dCons (da : DE) (dl : DA) : DA := fun δ G R EX => da δ G (fun x G1 => dl δ G1 (fun xs G2 => R (x :: xs) G2) EX) EX
theorem pda_nil : PDA X E [] dNil := ⟨imA pa_nil fun σ H Q ⟨δ, G, R, EX, sr, hr, h, cr, cx⟩ => cr _ _ _ _ (Up.refl H) hr .nil h⟩
theorem pda_cons (ha : PD X E e da) (hr : PDA X E es dl) (hs : starEach (e :: es) X.env = (false, eval e X.env) :: starEach es X.env := by rfl) : PDA X E (e :: es) (dCons da dl) :=
  ⟨imA (pa_cons ha.pe hr.pa hs) fun σ H Q ⟨δ, G, R, EX, sr, hr, h, cr, cx⟩ => ⟨δ, G, _, EX, sr, hr, h, fun x H1 d G1 u1 h1 r1 q1 => ⟨δ, G1, _, EX, sr.up u1, h1, q1, fun ys H2 es G2 u2 h2 r2 q2 => cr _ _ _ _ (u1.trans u2) h2 (.cons (r1.up u2) r2) q2, cx.up u1⟩, cx⟩⟩
def dTup (dl : DA) : DE := fun δ G R EX => dl δ G (fun xs G1 => xs.length ≤ sizeLine ∧ R (.tup xs) G1) EX
def dLst (dl : DA) : DE := fun δ G R EX => dl δ G (fun xs G1 => xs.length ≤ sizeLine ∧ ∀ p, G1 p = none → R (.ref p) (updD G1 p (.lst xs))) EX
theorem pd_tup {x1} (h : PDA X E es dl) : PD X E (.Tuple es x1 pos) (dTup dl) :=
  ⟨imE (pe_tup h.pa) fun σ H Q ⟨δ, G, R, EX, sr, hr, h, cr, cx⟩ => ⟨δ, G, _, EX, sr, hr, h, fun xs H1 l G1 u1 h1 r1 ⟨z, q1⟩ => ⟨by rw [r1.length]; exact z, fun p hp =>
    cr _ _ _ _ (u1.trans (Up.new hp)) (h1.new0 hp) (.tup (SqT.of upd_same) (r1.up (Up.new hp))) q1⟩, cx⟩⟩
theorem pd_lst (h : PDA X E es dl) : PD X E (.List es pos) (dLst dl) :=
  ⟨imE (pe_lst h.pa) fun σ H Q ⟨δ, G, R, EX, sr, hr, h, cr, cx⟩ => ⟨δ, G, _, EX, sr, hr, h, fun xs H1 l G1 u1 h1 r1 ⟨z, q1⟩ => ⟨by rw [r1.length]; exact z, fun p hp =>
    cr _ _ _ _ (u1.trans (Up.new hp)) (h1.new (c := .lst l) hp ⟨xs, upd_same, r1.up (Up.new hp)⟩) (.ref p) (q1 p (h1.none hp))⟩, cx⟩⟩
/-! calls -/
abbrev DC := List D → DH → DK → Prop
def LiftC (K : KT) (r : List V → Hp → VK → Prop) (r2 : DC) : Prop := ∀ x H d G R Q, HRel K G H → DvL K H x d → r2 d G R → CloR K H Q R → r x H Q
def dCB (r : DC) (dl : DA) : DE := fun δ G R EX => dl δ G (fun xs G1 => r xs G1 R) EX
theorem up_cb {r : List V → Hp → VK → Prop} {r2 : DC} (l : ∀ T, LiftC (X.K, T) r r2) {σ : L2.St} {H : Hp} {Q : VK} : up (kt X E) E.1 (dCB r2 dl) σ H Q → tCB r (upA (kt X E) E.1 dl) σ H Q := fun ⟨δ, G, R, EX, sr, hr, h, cr, cx⟩ => ⟨δ, G, _, EX, sr, hr, h, fun x H1 d G1 u1 h1 r1 q1 => l _ x H1 d G1 R Q h1 r1 q1 (cr.up u1), cx⟩
theorem pd_callB {id : String} {x : Str} {p : Pos} {r : List V → Hp → VK → Prop} {r2 : DC} (hc : CallR X (.builtin id) r) (l : ∀ T, LiftC (X.K, T) r r2) (hg : Gl X x) (hm : X.mg x = none) (hv : bootBuiltins x = some (.builtin id)) (ha : PDA X E (e :: es) dl) (hn : x ≠ "__name__" := by decide) (hdb : (x == ("__debug__" : Str)) = false := by decide)
    (he : starEach (e :: es) X.env = (false, eval e X.env) :: starEach es X.env := by rfl) (hpl : (backTo pos (starEach es X.env)).any (·.1) = false := by rfl) : PD X E (.Call (.Name x p) (e :: es) [] pos) (dCB r2 dl) :=
  ⟨imE (pe_callB hc hg hm hv ha.pa hn hdb (he := he) (hpl := hpl)) fun _ _ _ => up_cb l⟩
theorem pd_callTy {T : String} {x : Str} {p : Pos} {r : List V → Hp → VK → Prop} {r2 : DC} (hc : CallR X (.type T) r) (l : ∀ T, LiftC (X.K, T) r r2) (hg : Gl X x) (hm : X.mg x = none) (hv : bootBuiltins x = some (.type T)) (ha : PDA X E (e :: es) dl) (hn : x ≠ "__name__" := by decide) (hdb : (x == ("__debug__" : Str)) = false := by decide)
    (he : starEach (e :: es) X.env = (false, eval e X.env) :: starEach es X.env := by rfl) (hpl : (backTo pos (starEach es X.env)).any (·.1) = false := by rfl) : PD X E (.Call (.Name x p) (e :: es) [] pos) (dCB r2 dl) :=
  ⟨imE (pe_callTy hc hg hm hv ha.pa hn hdb (he := he) (hpl := hpl)) fun _ _ _ => up_cb l⟩
/-- a def of the module -/
def dCall (sd : SpD) (dl : DA) : DE := fun δ G R EX => dl δ G (fun xs G1 => sd xs G1 R EX) EX
theorem up_call {sd : SpD} {σ : L2.St} {H : Hp} {Q : VK} : up (kt X E) E.1 (dCall sd dl) σ H Q → tCall (upF (kt X E) sd) [] E.1 (upA (kt X E) E.1 dl) σ H Q := fun ⟨δ, G, R, EX, sr, hr, h, cr, cx⟩ =>
  ⟨δ, G, _, EX, sr, hr, h, fun x H1 d G1 u1 h1 r1 q1 => by show upF (kt X E) sd (x ++ []) H1 Q E.1; rw [List.append_nil]; exact ⟨d, G1, R, EX, r1, h1, q1, cr.up u1, cx.up u1⟩, cx⟩
theorem pd_call {CX : CXT} {k : Nat} {f : Addr} {fd : FuncData} {ps : List Str} {sd : SpD} {x : Str} {p : Pos} (F : FnOk X.prog X.w X.K X.mg X.base CX k f fd ps (upF (kt X E) sd)) (hr : Room k X.A) (hg : Gl X x) (hm : X.mg x = some (.ref f)) (hk : PySem.W.keepIn X.K (.ref f) = true) (hb : Binds X.K fd ps []) (hx : Passes CX X E.1)
    (ha : PDA X E (e :: es) dl) (hdb : (x == ("__debug__" : Str)) = false := by decide) (he : starEach (e :: es) X.env = (false, eval e X.env) :: starEach es X.env := by rfl) (hpl : (backTo pos (starEach es X.env)).any (·.1) = false := by rfl) :
    PD X E (.Call (.Name x p) (e :: es) [] pos) (dCall sd dl) := ⟨imE (pe_call F hr hg hm hk hb .nil hx ha.pa hdb he hpl) fun _ _ _ => up_call⟩
theorem pd_call0 {CX : CXT} {k : Nat} {f : Addr} {fd : FuncData} {ps : List Str} {sd : SpD} {x : Str} {p : Pos} (F : FnOk X.prog X.w X.K X.mg X.base CX k f fd ps (upF (kt X E) sd)) (hr : Room k X.A) (hg : Gl X x) (hm : X.mg x = some (.ref f)) (hk : PySem.W.keepIn X.K (.ref f) = true) (hb : Binds X.K fd ps []) (hx : Passes CX X E.1)
    (hdb : (x == ("__debug__" : Str)) = false := by decide) : PD X E (.Call (.Name x p) [] [] pos) (dCall sd dNil) := ⟨imE (pe_call0 F hr hg hm hk hb .nil hx hdb) fun σ H Q ⟨δ, G, R, EX, sr, hr, h, cr, cx⟩ => ⟨[], G, R, EX, .nil, hr, h, cr, cx⟩⟩
end
end Cc
/-! ### targets, statements, loops, comprehensions -/
namespace Cc
open PySem PySem.Spec PyProof.Rows L2
abbrev DG := D → DS → DH → (DS → DH → Prop) → DX → Prop
abbrev DGs := List D → DS → DH → (DS → DH → Prop) → DX → Prop
def upG (K : KT) (E : XK) (g : DG) : TG := fun v σ H Q => ∃ d δ G R EX, Dv K H v d ∧ SRel K H σ δ ∧ HRel K G H ∧ g d δ G R EX ∧ CloS K H Q R ∧ CloX K H E EX
def upGs (K : KT) (E : XK) (g : DGs) : TGs := fun v σ H Q => ∃ d δ G R EX, DvL K H v d ∧ SRel K H σ δ ∧ HRel K G H ∧ g d δ G R EX ∧ CloS K H Q R ∧ CloX K H E EX
structure PDG (X : Cx) (E : EK) (t : Expr) (g : DG) : Prop where
  pg : PG X t (upG (kt X E) E.1 g)
structure PDGs (X : Cx) (E : EK) (t : List Expr) (g : DGs) : Prop where
  pgs : PGs X t (upGs (kt X E) E.1 g)
theorem imG {X : Cx} {e : Expr} {t u : TG} (h : PG X e t) (k : ∀ v σ H Q, u v σ H Q → t v σ H Q) : PG X e u := ⟨fun pins s σ H v x Q I r q => h.run pins s σ H v x Q I r (k v σ H Q q)⟩
theorem imGs {X : Cx} {e : List Expr} {t u : TGs} (h : PGs X e t) (k : ∀ v σ H Q, u v σ H Q → t v σ H Q) : PGs X e u := ⟨fun pins s σ H v x Q I r q => h.run pins s σ H v x Q I r (k v σ H Q q)⟩
section
variable {X : Cx} {E : EK} {a b c e : Expr} {es rest : List Expr} {pos : Pos} {da db dc de : DE} {dA dB : DT} {dl : DA} {g : DG} {gs : DGs} {st : Stmt} {sts body : List Stmt} {t u : DSt}
def gN (i : Nat) : DG := fun d δ G R _ => R (δ.set i (some d)) G
def gsNil : DGs := fun ds δ G R _ => ds = [] ∧ R δ G
def gsCons (g : DG) (gs : DGs) : DGs := fun ds δ G R EX => match ds with
  | d :: r => g d δ G (fun δ1 G1 => gs r δ1 G1 R EX) EX
  | [] => False
def gT (n : Nat) (gs : DGs) : DG := fun d δ G R EX => match d.tl with
  | some l => l.length = n ∧ gs l δ G R EX
  | none => False
theorem up_gN {i : Nat} {v : V} {σ : L2.St} {H : Hp} {Q : L2.St → Hp → Prop} : upG (kt X E) E.1 (gN i) v σ H Q → gName i v σ H Q := fun ⟨d, δ, G, R, EX, dv, sr, hr, h, cr, cx⟩ => cr _ _ _ _ (Up.refl H) (sr.set dv) hr h
theorem pdg_name {i : Nat} {x : Str} (hN : X.N.Nodup) (hi : X.N[i]? = some x) (hx : Loc X.env.scope x) (hf : X.fn x = true ∨ X.env.scope.names.lookup x = some .local := by first | exact .inl rfl | exact .inr rfl | assumption) : PDG X E (.Name x pos) (gN i) :=
  ⟨imG (pg_name hN hi hx hf) fun _ _ _ _ => up_gN⟩
theorem pdgs_nil : PDGs X E [] gsNil := ⟨imGs pgs_nil fun v σ H Q ⟨d, δ, G, R, EX, dv, sr, hr, h, cr, cx⟩ => by
  obtain ⟨rfl, h⟩ := h
  cases dv
  exact ⟨rfl, cr _ _ _ _ (Up.refl H) sr hr h⟩⟩
theorem pdgs_cons (h1 : PDG X E e g) (h2 : PDGs X E es gs) (hs : (assignEach (e :: es) X.env).map (·.2) = assign e X.env :: (assignEach es X.env).map (·.2) := by rfl) : PDGs X E (e :: es) (gsCons g gs) :=
  ⟨imGs (pgs_cons h1.pg h2.pgs hs) fun v σ H Q ⟨d, δ, G, R, EX, dv, sr, hr, h, cr, cx⟩ => by
    cases dv with
    | nil => exact False.elim h
    | cons r rr => exact ⟨_, _, rfl, ⟨_, δ, G, _, EX, r, sr, hr, h, fun σ1 H1 δ1 G1 u1 s1 h1 q1 => ⟨_, δ1, G1, R, EX, rr.up u1, s1, h1, q1, cr.up u1, cx.up u1⟩, cx⟩⟩⟩
theorem pdg_tup {k n : Nat} (hc : X.calm = true) (h : PDGs X E es gs) (hn : (assignEach es X.env).length = n := by rfl) (hst : (assignEach es X.env).findIdx? (·.1) = none := by rfl) : PDG X E (.Tuple es k pos) (gT n gs) :=
  ⟨imG (pg_tup hc h.pgs hn hst) fun v σ H Q ⟨d, δ, G, R, EX, dv, sr, hr, h, cr, cx⟩ => by
    unfold gT at h
    split at h
    · rename_i l e
      obtain ⟨a, xs, rfl, hq, r⟩ := dv.sqT e
      exact ⟨_, _, rfl, hq, by rw [r.length]; exact h.1, _, δ, G, R, EX, r, sr, hr, h.2, cr, cx⟩
    · exact False.elim h⟩
/-- o[i] = .. -/
abbrev DSet := D → D → D → DH → (DH → Prop) → Prop
def LiftSet (K : KT) (t : TSet) (t2 : DSet) : Prop := ∀ o i v H d e f G (R : DH → Prop) (Q : Hp → Prop), HRel K G H → Dv K H o d → Dv K H i e → Dv K H v f → t2 d e f G R → (∀ H' G', Up H H' → HRel K G' H' → R G' → Q H') → t o i v H Q
def gS (da db : DE) (t : DSet) : DG := fun v δ G R EX => da δ G (fun o G1 => db δ G1 (fun i G2 => t o i v G2 fun G3 => R δ G3) EX) EX
theorem pdg_sub {t1 : TSet} {t2 : DSet} (hs : PSet X t1) (l : ∀ T, LiftSet (X.K, T) t1 t2) (ha : PD X E a da) (hb : PD X E b db)
    (hh : ∀ v, assign (.Subscript a b pos) X.env v = (do
      let ov ← holding [v] (eval a X.env)
      let iv ← holding [v, ov] (eval b X.env)
      standAt pos
      holding [v, ov, iv] (setItem ov iv v)
      release [v, ov, iv] []) := by intro _; rfl) : PDG X E (.Subscript a b pos) (gS da db t2) :=
  ⟨imG (pg_sub ha.pe hb.pe hs hh) fun v σ H Q ⟨d, δ, G, R, EX, dv, sr, hr, h, cr, cx⟩ =>
    ⟨δ, G, _, EX, sr, hr, h, fun o H1 d1 G1 u1 h1 r1 q1 => ⟨δ, G1, _, EX, sr.up u1, h1, q1, fun i H2 d2 G2 u2 h2 r2 q2 =>
      l _ o i v H2 d1 d2 d G2 _ _ h2 (r1.up u2) r2 (dv.up (u1.trans u2)) q2 fun H3 G3 u3 h3 q3 => cr _ _ _ _ (u1.trans (u2.trans u3)) (sr.up (u1.trans (u2.trans u3))) h3 q3, cx.up u1⟩, cx⟩⟩
/-! statements -/
def sAsg (da : DE) (g : DG) : DSt := fun D δ G => da δ G (fun x G1 => g x δ G1 D.nx D.ex) D.ex
theorem up_asg {σ : L2.St} {H : Hp} {Dn : Ends} : upS (kt X E) E.1 (sAsg da g) Dn σ H → tAsg (up (kt X E) E.1 da) (upG (kt X E) E.1 g) Dn σ H := fun ⟨δ, G, DD, sr, hr, h, cn, ct, cb, cc, cx⟩ =>
  ⟨δ, G, _, DD.ex, sr, hr, h, fun x H1 d G1 u1 h1 r1 q1 => ⟨d, δ, G1, DD.nx, DD.ex, r1, sr.up u1, h1, q1, cn.up u1, cx.up u1⟩, cx⟩
theorem pds_asg {tg : Expr} (he : PD X E e de) (hg : PDG X E tg g) (hs : swapsWithSole [tg] e pos.line X.env = pure false := by rfl) (hw : swappedStores [tg] e X.env = pure none := by rfl)
    (h1 : (assignEach [tg] X.env).map (·.2) = [assign tg X.env] := by rfl) : PDS X E (.Assign [tg] e pos) (sAsg de g) := ⟨imS (ps_asg he.pe hg.pg hs hw h1) fun _ _ _ => up_asg⟩
def sDrop (da : DE) : DSt := fun D δ G => da δ G (fun _ G1 => D.nx δ G1) D.ex
theorem pds_expr (he : PD X E e de) (hs : swapsWith e none pos.line X.env = pure false := by rfl) : PDS X E (.Expr e pos) (sDrop de) := ⟨imS (ps_expr he.pe hs) fun Dn σ H ⟨δ, G, DD, sr, hr, h, cn, ct, cb, cc, cx⟩ =>
  ⟨δ, G, _, DD.ex, sr, hr, h, fun x H1 d G1 u1 h1 r1 q1 => cn _ _ _ _ u1 (sr.up u1) h1 q1, cx⟩⟩
def sRet (da : DE) : DSt := fun D δ G => da δ G D.rt D.ex
theorem pds_ret (he : PD X E e de) : PDS X E (.Return (some e) pos) (sRet de) := ⟨imS (ps_ret he.pe) fun Dn σ H ⟨δ, G, DD, sr, hr, h, cn, ct, cb, cc, cx⟩ => ⟨δ, G, _, DD.ex, sr, hr, h, ct, cx⟩⟩
def sRetN : DSt := fun D _ G => D.rt .non G
theorem pds_retN : PDS X E (.Return none pos) sRetN := ⟨imS ps_retN fun Dn σ H ⟨δ, G, DD, sr, hr, h, cn, ct, cb, cc, cx⟩ => ct _ _ _ _ (Up.refl H) hr .non h⟩
def sNext : DSt := fun D δ G => D.nx δ G
theorem pds_pass : PDS X E (.Pass pos) sNext := ⟨imS ps_pass fun Dn σ H ⟨δ, G, DD, sr, hr, h, cn, ct, cb, cc, cx⟩ => cn _ _ _ _ (Up.refl H) sr hr h⟩
def sSeq (t u : DSt) : DSt := fun D δ G => t { D with nx := u D } δ G
theorem pdss_nil : PDSs X E [] sNext := ⟨imSs pss_nil fun Dn σ H ⟨δ, G, DD, sr, hr, h, cn, ct, cb, cc, cx⟩ => cn _ _ _ _ (Up.refl H) sr hr h⟩
theorem pdss_cons (h1 : PDS X E st t) (h2 : PDSs X E sts u) : PDSs X E (st :: sts) (sSeq t u) := ⟨imSs (pss_cons h1.ps h2.ps) fun Dn σ H ⟨δ, G, DD, sr, hr, h, cn, ct, cb, cc, cx⟩ =>
  ⟨δ, G, _, sr, hr, h, fun σ1 H1 δ1 G1 u1 s1 h1 q1 => ⟨δ1, G1, DD, s1, h1, q1, cn.up u1, ct.up u1, cb.up u1, cc.up u1, cx.up u1⟩, ct, cb, cc, cx⟩⟩
theorem pdss_one (h1 : PDS X E st t) : PDSs X E [st] t := ⟨pss_one h1.ps⟩
def sIf (c : DT) (t u : DSt) : DSt := fun D δ G => c δ G (fun b G1 => if b = true then t D δ G1 else u D δ G1) D.ex
theorem pds_if {ss : List Stmt} (hc : PDT X E c dA) (ha : PDSs X E sts t) (hb : PDSs X E ss u) : PDS X E (.If c sts ss pos) (sIf dA t u) := ⟨imS (ps_if hc.pt ha.ps hb.ps) fun Dn σ H ⟨δ, G, DD, sr, hr, h, cn, ct, cb, cc, cx⟩ =>
  ⟨δ, G, _, DD.ex, sr, hr, h, fun b H1 G1 u1 h1 q1 => by
    cases b with
    | true => rw [if_pos rfl] at q1 ⊢; exact ⟨δ, G1, DD, sr.up u1, h1, q1, cn.up u1, ct.up u1, cb.up u1, cc.up u1, cx.up u1⟩
    | false => rw [if_neg Bool.false_ne_true] at q1 ⊢; exact ⟨δ, G1, DD, sr.up u1, h1, q1, cn.up u1, ct.up u1, cb.up u1, cc.up u1, cx.up u1⟩, cx⟩⟩
/-! what is walked -/
structure SrcOk (K : KT) (J : It) (l : List D) (ok : DH → Prop) (H0 : Hp) : Prop where
  mono : ∀ G G' : DH, Sub G G' → ok G → ok G'
  at_ : ∀ (i : Nat) (H : Hp) (G : DH), Up H0 H → HRel K G H → ok G →
    (i < l.length → J.go i H ∧ ∀ x H', J.yld i H x H' → ∃ d, l[i]? = some d ∧ Up H H' ∧ HRel K G H' ∧ Dv K H' x d) ∧ (l.length ≤ i → J.stop i H)
abbrev DI := DS → DH → (List D → (DH → Prop) → DH → Prop) → DX → Prop
def upI (K : KT) (E : XK) (di : DI) : TI := fun σ H R => ∃ δ G RR EX, SRel K H σ δ ∧ HRel K G H ∧ di δ G RR EX ∧ (∀ J l ok H' G', Up H H' → HRel K G' H' → SrcOk K J l ok H' → RR l ok G' → R J H') ∧ CloX K H E EX
structure PDI (X : Cx) (E : EK) (tg iter : Expr) (di : DI) : Prop where
  pi : PI X tg iter (upI (kt X E) E.1 di)
theorem imI {X : Cx} {tg iter : Expr} {t u : TI} (h : PI X tg iter t) (k : ∀ σ H Q, u σ H Q → t σ H Q) : PI X tg iter u := ⟨fun pins s σ H Q I q => h.run pins s σ H Q I (k σ H Q q)⟩
/-- a tuple, or a list that stands still -/
def iSq (da : DE) : DI := fun δ G RR EX => da δ G (fun d G1 => match d with
  | .tup l => RR l (fun _ => True) G1
  | .key ks => RR (ks.map kD) (fun _ => True) G1
  | .rol l => RR l (fun _ => True) G1
  | .wol l => RR l (fun _ => True) G1
  | .ref a => ∃ l, G1 a = some (.lst l) ∧ RR l (fun G => G a = some (.lst l)) G1
  | _ => False) EX
theorem sqT_inj {K : KT} {H : Hp} {a : Addr} {xs ys : List V} (h : SqT K.1 H a xs) : True := trivial
theorem src_tup {K : KT} {H0 : Hp} {a : Addr} {xs : List V} {l : List D} (hq : SqT K.1 H0 a xs) (r : DvL K H0 xs l) : SrcOk K (Itt K.1 a) l (fun _ => True) H0 where
  mono := fun _ _ _ h => h
  at_ := fun i H G u hr _ => by
    refine ⟨fun hi => ?_, fun hi => ⟨xs, u.sqT hq, by rw [r.length]; exact hi⟩⟩
    have hx : i < xs.length := by rw [r.length]; exact hi
    refine ⟨⟨xs, xs[i], u.sqT hq, List.getElem?_eq_getElem hx⟩, fun x H' ⟨e, y⟩ => ?_⟩
    subst e
    obtain ⟨d, h1, h2⟩ := (r.up u).get' (y xs (u.sqT hq))
    exact ⟨d, h1, Up.refl _, hr, h2⟩
theorem src_rol {K : KT} {H0 : Hp} {a : Addr} {xs : List V} {l : List D} (hq : SqR K.1 H0 a xs) (r : DvL K H0 xs l) : SrcOk K (Itl K.1 a) l (fun _ => True) H0 where
  mono := fun _ _ _ h => h
  at_ := fun i H G u hr _ => by
    have q := (u.sqR hq).sqL
    refine ⟨fun hi => ?_, fun hi => ⟨xs, q, by rw [r.length]; exact hi⟩⟩
    have hx : i < xs.length := by rw [r.length]; exact hi
    refine ⟨⟨xs, xs[i], q, List.getElem?_eq_getElem hx⟩, fun x H' ⟨e, y⟩ => ?_⟩
    subst e
    obtain ⟨d, h1, h2⟩ := (r.up u).get' (y xs q)
    exact ⟨d, h1, Up.refl _, hr, h2⟩
theorem src_lst {K : KT} {H0 : Hp} {a : Addr} {l : List D} : SrcOk K (Itl K.1 a) l (fun G => G a = some (.lst l)) H0 where
  mono := fun _ _ s h => s _ _ h
  at_ := fun i H G u hr ok => by
    obtain ⟨xs, e, r⟩ := hr a _ ok
    have q : SqL K.1 H a xs := SqL.of e
    refine ⟨fun hi => ?_, fun hi => ⟨xs, q, by rw [r.length]; exact hi⟩⟩
    have hx : i < xs.length := by rw [r.length]; exact hi
    refine ⟨⟨xs, xs[i], q, List.getElem?_eq_getElem hx⟩, fun x H' ⟨e, y⟩ => ?_⟩
    subst e
    obtain ⟨d, h1, h2⟩ := r.get' (y xs q)
    exact ⟨d, h1, Up.refl _, hr, h2⟩
theorem pdi_seq {tg : Expr} (he : PD X E e de) : PDI X E tg e (iSq de) := by
  refine ⟨⟨fun pins s σ H R I h => ?_⟩⟩
  obtain ⟨δ, G, RR, EX, sr, hr, h, cr, cx⟩ := h
  -- what is walked decides between the two library rules: read the value first
  refine thn (he.pe.run pins s σ H (fun v H1 => (∃ a, v = .ref a ∧ (∃ xs, SqL X.K H1 a xs) ∧ R (Itl X.K a) H1) ∨ (∃ a, v = .ref a ∧ (∃ xs, SqT X.K H1 a xs) ∧ R (Itt X.K a) H1)) I ⟨δ, G, _, EX, sr, hr, h, fun v H1 d G1 u1 h1 r1 q1 => ?_, cx⟩) fun v s1 ⟨x, H1, I1, r1, q1⟩ => ?_
  · cases r1 with
    | tup hq r => exact .inr ⟨_, rfl, ⟨_, hq⟩, cr _ _ _ _ _ u1 h1 (src_tup hq r) q1⟩
    | key hq => exact .inr ⟨_, rfl, ⟨_, SqT.of hq⟩, cr _ _ _ _ _ u1 h1 (src_tup (SqT.of hq) (dvL_kD _)) q1⟩
    | rol hq r => exact .inl ⟨_, rfl, ⟨_, hq.sqL⟩, cr _ _ _ _ _ u1 h1 (src_rol (by obtain ⟨o, h⟩ := hq; exact .inl ⟨o, h⟩) r) q1⟩
    | wol hq r => exact .inl ⟨_, rfl, ⟨_, hq.sqL⟩, cr _ _ _ _ _ u1 h1 (src_rol hq r) q1⟩
    | ref a =>
      obtain ⟨l, e, q⟩ := q1
      obtain ⟨xs, e1, _⟩ := h1 a _ e
      exact .inl ⟨_, rfl, ⟨_, SqL.of e1⟩, cr _ _ _ _ _ u1 h1 src_lst q⟩
    | _ => exact False.elim q1
  · rcases q1 with ⟨a, e, ⟨xs, hq⟩, q⟩ | ⟨a, e, ⟨xs, hq⟩, q⟩
    · subst e
      cases r1
      obtain ⟨its, rv, p, hz⟩ := I1.list hq
      refine wpAny_pyIter_list p.isList ?_
      refine ⟨s1.heap.objs.size, [s1.heap.objs.size], _, _, H1, rfl, I1.kept (t' := s1.toks) fun b o e => Heap.get?_push_of_some _ e, turn_list a _, ⟨_, Heap.get?_push_size _ rfl, rfl, rfl⟩, fun b hb => ?_, q⟩
      have e : b = s1.heap.objs.size := by simpa using hb
      subst e
      exact I1.fpOk (Nat.le_refl _) (I1.hok.fresh (Nat.le_refl _))
    · subst e
      cases r1
      obtain ⟨its, rv, p, hz⟩ := I1.tuple hq
      refine wpAny_pyIter_tuple (show s1.heap.IsTuple a its.toArray from p) ?_
      refine ⟨s1.heap.objs.size, [s1.heap.objs.size], _, _, H1, rfl, I1.kept (t' := s1.toks) fun b o e => Heap.get?_push_of_some _ e, turn_tuple a _, ⟨_, Heap.get?_push_size _ rfl, rfl, rfl⟩, fun b hb => ?_, q⟩
      have e : b = s1.heap.objs.size := by simpa using hb
      subst e
      exact I1.fpOk (Nat.le_refl _) (I1.hok.fresh (Nat.le_refl _))
def rangeD (lo : Int) (n : Nat) : List D := (List.range n).map fun i => .int (lo + (i : Nat))
theorem src_range {K : KT} {H0 : Hp} {lo : Int} {n : Nat} : SrcOk K (Itr lo n) (rangeD lo n) (fun _ => True) H0 where
  mono := fun _ _ _ h => h
  at_ := fun i H G u hr _ => by
    have hl : (rangeD lo n).length = n := by unfold rangeD; rw [List.length_map, List.length_range]
    refine ⟨fun hi => ⟨by rw [hl] at hi; exact hi, fun x H' ⟨e, y⟩ => ?_⟩, fun hi => by rw [hl] at hi; exact hi⟩
    subst e y
    rw [hl] at hi
    refine ⟨_, ?_, Up.refl _, hr, .int _⟩
    unfold rangeD
    rw [List.getElem?_map, List.getElem?_range hi]
    rfl
/-- range(n), range(a, b) -/
def iRange1 (da : DE) : DI := fun δ G RR EX => da δ G (fun d G1 => match d with
  | .int j => (-(2 ^ 62) ≤ j ∧ j < 2 ^ 62) ∧ RR (rangeD 0 j.toNat) (fun _ => True) G1
  | _ => False) EX
def iRange2 (da db : DE) : DI := fun δ G RR EX => da δ G (fun d G1 => db δ G1 (fun e G2 => match d, e with
  | .int i, .int j => (-(2 ^ 62) ≤ i ∧ i < 2 ^ 62 ∧ -(2 ^ 62) ≤ j ∧ j < 2 ^ 62) ∧ RR (rangeD i (j - i).toNat) (fun _ => True) G2
  | _, _ => False) EX) EX
theorem pdi_range1 {tg : Expr} {p : Pos} (hg : Gl X "range") (hm : X.mg "range" = none) (ha : PD X E a da) (hs : starEach [a] X.env = [(false, eval a X.env)] := by rfl) (hs' : starEach (a :: []) X.env = (false, eval a X.env) :: starEach [] X.env := by rfl) : PDI X E tg (.Call (.Name "range" p) [a] [] pos) (iRange1 da) :=
  ⟨imI (pi_range1 hg hm (pa_cons ha.pe pa_nil hs') hs) fun σ H R ⟨δ, G, RR, EX, sr, hr, h, cr, cx⟩ => ⟨δ, G, _, EX, sr, hr, h, fun x H1 d G1 u1 h1 r1 q1 => by
    cases r1 with
    | int j => exact ⟨j, rfl, q1.1.1, q1.1.2, cr _ _ _ _ _ u1 h1 src_range q1.2⟩
    | _ => exact False.elim q1, cx⟩⟩
theorem pdi_range2 {tg : Expr} {p : Pos} (hg : Gl X "range") (hm : X.mg "range" = none) (ha : PD X E a da) (hb : PD X E b db) (hs : starEach [a, b] X.env = [(false, eval a X.env), (false, eval b X.env)] := by rfl) (hs2 : starEach [b] X.env = [(false, eval b X.env)] := by rfl)
    (hs' : starEach (a :: [b]) X.env = (false, eval a X.env) :: starEach [b] X.env := by rfl) (hs'' : starEach (b :: []) X.env = (false, eval b X.env) :: starEach [] X.env := by rfl) : PDI X E tg (.Call (.Name "range" p) [a, b] [] pos) (iRange2 da db) :=
  ⟨imI (pi_range2 hg hm (pa_cons ha.pe (pa_cons hb.pe pa_nil hs'') hs') hs hs2) fun σ H R ⟨δ, G, RR, EX, sr, hr, h, cr, cx⟩ => ⟨δ, G, _, EX, sr, hr, h, fun x H1 d G1 u1 h1 r1 q1 => ⟨δ, G1, _, EX, sr.up u1, h1, q1, fun y H2 e G2 u2 h2 r2 q2 => by
    cases r1 with
    | int i =>
      cases r2 with
      | int j => exact ⟨i, j, rfl, q2.1, cr _ _ _ _ _ (u1.trans u2) h2 src_range q2.2⟩
      | _ => exact False.elim q2
    | _ => exact False.elim q2, cx.up u1⟩, cx⟩⟩
def enumD (l : List D) : List D := (List.range l.length).map fun i => .tup [.int (i : Nat), l.getD i .non]
theorem enumD_length (l : List D) : (enumD l).length = l.length := by unfold enumD; rw [List.length_map, List.length_range]
theorem src_enum {K : KT} {H0 : Hp} {a : Addr} {l : List D} : SrcOk K (Ite K.1 a) (enumD l) (fun G => G a = some (.lst l)) H0 where
  mono := fun _ _ s h => s _ _ h
  at_ := fun i H G u hr ok => by
    obtain ⟨xs, e, r⟩ := hr a _ ok
    have q : SqL K.1 H a xs := SqL.of e
    rw [enumD_length]
    refine ⟨fun hi => ?_, fun hi => ⟨xs, q, by rw [r.length]; exact hi⟩⟩
    have hx : i < xs.length := by rw [r.length]; exact hi
    refine ⟨⟨xs, xs[i], q, List.getElem?_eq_getElem hx⟩, fun x H' y => ?_⟩
    obtain ⟨T, v, ex, nT, eH, hv⟩ := y
    subst ex eH
    obtain ⟨d, h1, h2⟩ := r.get' (hv xs q)
    refine ⟨.tup [.int (i : Nat), d], ?_, Up.new nT, hr.new0 nT, .tup (SqT.of upd_same) (.cons (.int _) (.cons (h2.up (Up.new nT)) .nil))⟩
    unfold enumD
    rw [List.getElem?_map, List.getElem?_range hi]
    simp only [Option.map_some]
    rw [List.getD_eq_getElem?_getD, h1]
    rfl
/-- enumerate(a list) -/
def iEnumD (da : DE) : DI := fun δ G RR EX => da δ G (fun d G1 => match d with
  | .ref a => ∃ l, G1 a = some (.lst l) ∧ RR (enumD l) (fun G => G a = some (.lst l)) G1
  | _ => False) EX
theorem pdi_enum {tg : List Expr} {kk : Nat} {tpos p : Pos} (hg : Gl X "enumerate") (hm : X.mg "enumerate" = none) (ha : PD X E a da) (hs : starEach [a] X.env = [(false, eval a X.env)] := by rfl) (hs' : starEach (a :: []) X.env = (false, eval a X.env) :: starEach [] X.env := by rfl) :
    PDI X E (.Tuple tg kk tpos) (.Call (.Name "enumerate" p) [a] [] pos) (iEnumD da) :=
  ⟨imI (pi_enum hg hm (pa_cons ha.pe pa_nil hs') hs) fun σ H R ⟨δ, G, RR, EX, sr, hr, h, cr, cx⟩ => ⟨δ, G, _, EX, sr, hr, h, fun x H1 d G1 u1 h1 r1 q1 => by
    cases r1 with
    | ref a =>
      obtain ⟨l, e, q⟩ := q1
      obtain ⟨xs, e1, _⟩ := h1 a _ e
      exact ⟨a, xs, rfl, SqL.of e1, cr _ _ _ _ _ u1 h1 src_enum q⟩
    | _ => exact False.elim q1, cx⟩⟩
/-! for -/
def goFor (ok : DH → Prop) (g : DG) (tb : DSt) (D : DEnds) : List Cc.D → DS → DH → Prop
  | [], δ, G => ok G ∧ D.nx δ G
  | x :: xs, δ, G => ok G ∧ g x δ G (fun δ2 G2 => tb { D with nx := goFor ok g tb D xs, ct := goFor ok g tb D xs, bk := D.nx } δ2 G2) D.ex
def sFor (di : DI) (g : DG) (tb : DSt) : DSt := fun D δ G => di δ G (fun l ok G1 => goFor ok g tb D l δ G1) D.ex
theorem up_for {di : DI} {Dn : Ends} {σ : L2.St} {H : Hp} : upS (kt X E) E.1 (sFor di g t) Dn σ H → tFor (upI (kt X E) E.1 di) (upG (kt X E) E.1 g) (upS (kt X E) E.1 t) Dn σ H := fun ⟨δ, G, DD, sr, hr, h, cn, ct, cb, cc, cx⟩ => by
  refine ⟨δ, G, _, DD.ex, sr, hr, h, fun J l ok H0 G0 u0 h0 so q0 => ?_, cx⟩
  have sr0 := sr.up u0
  refine ⟨fun i m σ H => m = l.length - i ∧ i ≤ l.length ∧ ∃ δ G, SRel (kt X E) H σ δ ∧ HRel (kt X E) G H ∧ Up H0 H ∧ goFor ok g t DD (l.drop i) δ G, ⟨l.length, by simp, Nat.zero_le _, δ, G0, sr0, h0, Up.refl _, by simpa using q0⟩, ?_⟩
  rintro i m σ1 H1 ⟨rfl, hi, δ1, G1, s1, h1, u1, q1⟩
  by_cases hlt : i < l.length
  · rw [List.drop_eq_getElem_cons hlt] at q1
    obtain ⟨k1, q1⟩ := q1
    obtain ⟨gx, yx⟩ := (so.at_ i H1 G1 u1 h1 k1).1 hlt
    refine .inr ⟨gx, fun σ2 H2 => ∃ δ2 G2, SRel (kt X E) H2 σ2 δ2 ∧ HRel (kt X E) G2 H2 ∧ Up H0 H2 ∧ goFor ok g t DD (l.drop (i + 1)) δ2 G2, fun σ2 H2 ⟨δ2, G2, a1, a2, a3, a4⟩ => ⟨l.length - (i + 1), by omega, rfl, hlt, δ2, G2, a1, a2, a3, a4⟩, fun x H2 y => ?_⟩
    obtain ⟨d, e1, u2, h2, r2⟩ := yx x H2 y
    rw [List.getElem?_eq_getElem hlt] at e1
    cases e1
    have u02 := u0.trans (u1.trans u2)
    refine ⟨_, δ1, G1, _, DD.ex, r2, s1.up u2, h2, q1, fun σ3 H3 δ3 G3 u3 s3 h3 q3 => ?_, cx.up u02⟩
    have u03 := u02.trans u3
    refine ⟨δ3, G3, _, s3, h3, q3, fun σ4 H4 δ4 G4 u4 s4 h4 q4 => ⟨δ4, G4, s4, h4, u1.trans (u2.trans (u3.trans u4)), q4⟩, ct.up u03, cn.up u03, fun σ4 H4 δ4 G4 u4 s4 h4 q4 => ⟨δ4, G4, s4, h4, u1.trans (u2.trans (u3.trans u4)), q4⟩, cx.up u03⟩
  · have e : i = l.length := by omega
    subst e
    rw [List.drop_length] at q1
    exact .inl ⟨(so.at_ _ H1 G1 u1 h1 q1.1).2 (Nat.le_refl _), cn _ _ _ _ (u0.trans u1) s1 h1 q1.2⟩
theorem pds_for {tg iter : Expr} {di : DI} (hp : PassesOwn (model X.prog X.w) X.A X.env X.xe) (hc : X.calm = true) (hi : PDI X E tg iter di) (hg : PDG X E tg g) (hb : PDSs X E body t)
    (hs : ∀ x, foldedSetIterable iter X.env x = pure x := by intro _; rfl) : PDS X E (.For tg iter body [] pos) (sFor di g t) := ⟨imS (ps_for hp hc hi.pi hg.pg hb.ps hs) fun _ _ _ => up_for⟩
end
end Cc
/-! ### comprehensions, slices, methods, objects -/
namespace Cc
open PySem PySem.Spec PyProof.Rows L2
abbrev noX : DX := fun _ _ _ => False
abbrev noE : XK := fun _ _ _ => False
theorem CloX.no {K : KT} {H : Hp} : CloX K H noE noX := fun _ _ _ _ _ _ h => h
theorem wipe_get {σ : L2.St} {i : Nat} : ∀ {vs : List Nat}, (wipe σ vs)[i]? = if i ∈ vs then (σ[i]?).map (fun _ => none) else σ[i]?
  | [] => by simp [wipe]
  | v :: vs => by
    unfold wipe
    by_cases hb : v = i
    · subst hb
      by_cases hl : v < σ.length
      · rw [List.getElem?_set_self (by rw [wipe_length]; exact hl), if_pos (List.mem_cons_self), List.getElem?_eq_getElem hl]
        rfl
      · rw [List.getElem?_eq_none (by rw [List.length_set, wipe_length]; omega), if_pos (List.mem_cons_self), List.getElem?_eq_none (by omega)]
        rfl
    · rw [List.getElem?_set_ne hb, wipe_get (vs := vs)]
      by_cases hm : i ∈ vs
      · rw [if_pos hm, if_pos (List.mem_cons_of_mem _ hm)]
      · rw [if_neg hm, if_neg (by simp only [List.mem_cons, not_or]; exact ⟨fun e => hb e.symm, hm⟩)]
theorem wipe_set {σ : L2.St} {i : Nat} {o : Option V} {vs : List Nat} (h : i ∈ vs) : wipe (σ.set i o) vs = wipe σ vs := by
  apply List.ext_getElem?
  intro j
  rw [wipe_get, wipe_get]
  by_cases hj : j ∈ vs
  · rw [if_pos hj, if_pos hj]
    by_cases hb : i = j
    · subst hb
      by_cases hl : i < σ.length
      · rw [List.getElem?_set_self hl, List.getElem?_eq_getElem hl]
        rfl
      · rw [List.getElem?_eq_none (by rw [List.length_set]; omega), List.getElem?_eq_none (by omega)]
    · rw [List.getElem?_set_ne hb]
  · rw [if_neg hj, if_neg hj, List.getElem?_set_ne (by intro e; subst e; exact hj h)]
theorem wipe_wipe {σ : L2.St} {vs : List Nat} : wipe (wipe σ vs) vs = wipe σ vs := by
  apply List.ext_getElem?
  intro j
  rw [wipe_get]
  by_cases hj : j ∈ vs
  · rw [if_pos hj, wipe_get, if_pos hj]
    cases σ[j]? <;> rfl
  · rw [if_neg hj]
def wipeD (δ : DS) : List Nat → DS
  | [] => δ
  | v :: vs => (wipeD δ vs).set v none
theorem SRel.setNone {K : KT} {H : Hp} {σ : L2.St} {δ : DS} {i : Nat} (h : SRel K H σ δ) : SRel K H (σ.set i none) (δ.set i none) := by
  refine ⟨by rw [List.length_set, List.length_set]; exact h.1, fun j d q => ?_⟩
  by_cases hb : i = j
  · subst hb
    by_cases hl : i < δ.length
    · rw [List.getElem?_set_self hl] at q; cases q
    · rw [List.getElem?_eq_none (by rw [List.length_set]; omega)] at q; cases q
  · rw [List.getElem?_set_ne hb] at q ⊢
    exact h.2 j d q
theorem SRel.wipe {K : KT} {H : Hp} {σ : L2.St} {δ : DS} (h : SRel K H σ δ) : ∀ vs : List Nat, SRel K H (L2.wipe σ vs) (wipeD δ vs)
  | [] => h
  | v :: vs => (SRel.wipe h vs).setNone
/-- a target of a comprehension: names of its own -/
def CT (vs : List Nat) (g : TG) : Prop := ∀ v σ H Q, g v σ H Q → g v σ H fun σ2 H2 => wipe σ2 vs = wipe σ vs ∧ Q σ2 H2
def CTs (vs : List Nat) (g : TGs) : Prop := ∀ v σ H Q, g v σ H Q → g v σ H fun σ2 H2 => wipe σ2 vs = wipe σ vs ∧ Q σ2 H2
section
variable {X : Cx} {E : EK} {a b c e : Expr} {es rest : List Expr} {pos : Pos} {da db dc de : DE} {dA dB : DT} {dl : DA} {g : DG} {gs : DGs} {st : Stmt} {sts body : List Stmt} {t u : DSt} {vs : List Nat}
structure PDTs (X : Cx) (E : EK) (ifs : List Expr) (t : DT) : Prop where
  ts : PTs X ifs (upT (kt X E) noE t)
def dYes : DT := fun _ G R _ => R true G
theorem pdts_nil : PDTs X E [] dYes := ⟨⟨fun pins s σ H Q I ⟨δ, G, R, EX, sr, hr, h, cr, cx⟩ => wpAny_tests_nil ⟨H, I, cr _ _ _ (Up.refl H) hr h⟩⟩⟩
theorem pdts_one (h : PDT X (noE, E.2) c dA) : PDTs X E [c] dA := ⟨pts_one h.pt⟩
/-- a comprehension over l, the new list at D -/
def goLc (ok : DH → Prop) (D : Addr) (g : DG) (tt : DT) (te : DE) (k : DH → Prop) (δ : DS) : List Cc.D → DH → Prop
  | [], G => ok G ∧ k G
  | x :: xs, G => ok G ∧ g x δ G (fun δ2 G2 => tt δ2 G2 (fun b G3 => if b = true then te δ2 G3 (fun y G4 => ∃ acc, G4 D = some (.lst acc) ∧ acc.length < sizeLine ∧ goLc ok D g tt te k δ xs (updD G4 D (.lst (acc ++ [y])))) noX else goLc ok D g tt te k δ xs G3) noX) noX
def dLc (di : DI) (g : DG) (tt : DT) (te : DE) (vs : List Nat) : DE := fun δ G R EX => di δ G (fun l ok G1 => ∀ D, G1 D = none → goLc ok D g tt te (fun G => R (.ref D) G) (wipeD δ vs) l (updD G1 D (.lst []))) EX
theorem up_lc {E : XK} {di : DI} {g0 : TG} {K : KT} (cg : CT vs g0) (lg : ∀ v σ H Q, upG K noE g v σ H Q → g0 v σ H Q) {σ : L2.St} {H : Hp} {Q : VK} : up K E (dLc di g dA de vs) σ H Q → tLc (upI K E di) g0 (upT K noE dA) (up K noE de) vs σ H Q := fun ⟨δ, G, R, EX, sr, hr, h, cr, cx⟩ => by
  refine ⟨δ, G, _, EX, sr, hr, h, fun J l ok H0 G0 u0 h0 so q0 => ?_, cx⟩
  intro D hD
  have sr0 := sr.up u0
  have uD : Up H0 (upd H0 D (.lst [])) := Up.new hD
  refine ⟨fun i m H => m = l.length - i ∧ i ≤ l.length ∧ ∃ G, HRel K G H ∧ Up H0 H ∧ goLc ok D g dA de (fun G => R (.ref D) G) (wipeD δ vs) (l.drop i) G, ⟨l.length, by simp, Nat.zero_le _, _, h0.new (c := .lst []) hD ⟨[], upd_same, .nil⟩, uD, by simpa using q0 D (h0.none hD)⟩, ?_⟩
  rintro i m H1 ⟨rfl, hi, G1, h1, u1, q1⟩
  by_cases hlt : i < l.length
  · rw [List.drop_eq_getElem_cons hlt] at q1
    obtain ⟨k1, q1⟩ := q1
    obtain ⟨gx, yx⟩ := (so.at_ i H1 G1 u1 h1 k1).1 hlt
    refine .inr ⟨gx, fun H2 => ∃ G2, HRel K G2 H2 ∧ Up H0 H2 ∧ goLc ok D g dA de (fun G => R (.ref D) G) (wipeD δ vs) (l.drop (i + 1)) G2, fun H2 ⟨G2, a2, a3, a4⟩ => ⟨l.length - (i + 1), by omega, rfl, hlt, G2, a2, a3, a4⟩, fun x H2 y => ?_⟩
    obtain ⟨d, e1, u2, h2, r2⟩ := yx x H2 y
    rw [List.getElem?_eq_getElem hlt] at e1
    cases e1
    have u12 := u1.trans u2
    have cw := cg x (wipe σ vs) H2 (fun σ3 H3 => upT K noE dA σ3 H3 fun b H4 => if b = true then up K noE de σ3 H4 fun y H5 => ∃ acc, H5 D = some (.lst acc) ∧ acc.length < sizeLine ∧ (∃ G2, HRel K G2 (upd H5 D (.lst (acc ++ [y]))) ∧ Up H0 (upd H5 D (.lst (acc ++ [y]))) ∧ goLc ok D g dA de (fun G => R (.ref D) G) (wipeD δ vs) (l.drop (i + 1)) G2) else (∃ G2, HRel K G2 H4 ∧ Up H0 H4 ∧ goLc ok D g dA de (fun G => R (.ref D) G) (wipeD δ vs) (l.drop (i + 1)) G2))
      (lg _ _ _ _ ⟨_, wipeD δ vs, G1, _, noX, r2, (sr0.up u12).wipe vs, h2, q1, fun σ3 H3 δ3 G3 u3 s3 h3 q3 => ⟨δ3, G3, _, noX, s3, h3, q3, fun b H4 G4 u4 h4 q4 => ?_, CloX.no⟩, CloX.no⟩)
    · rw [wipe_wipe] at cw
      exact cw
    · have u14 := u12.trans (u3.trans u4)
      cases b with
      | true =>
        rw [if_pos rfl] at q4
        refine iteT ?_
        refine ⟨δ3, G4, _, noX, s3.up u4, h4, q4, fun y H5 dy G5 u5 h5 r5 q5 => ?_, CloX.no⟩
        obtain ⟨acc, ea, hl, q5⟩ := q5
        obtain ⟨xs, ex, rx⟩ := h5 D _ ea
        have uw : Up H5 (upd H5 D (.lst (xs ++ [y]))) := Up.put ex trivial
        exact ⟨xs, ex, by rw [rx.length]; exact hl, _, h5.put (c := .lst (acc ++ [dy])) ex trivial ⟨_, upd_same, (rx.up uw).append (.cons (r5.up uw) .nil)⟩, (u14.trans u5).trans uw, q5⟩
      | false =>
        rw [if_neg Bool.false_ne_true] at q4
        refine iteF ?_
        exact ⟨G4, h4, u14, q4⟩
  · have e : i = l.length := by omega
    subst e
    rw [List.drop_length] at q1
    exact .inl ⟨(so.at_ _ H1 G1 u1 h1 q1.1).2 (Nat.le_refl _), cr _ _ _ _ (u0.trans u1) h1 (.ref D) q1.2⟩
/-- the block's parts: the target, the tests, the element -/
structure BlkP (X : Cx) (E : EK) (scope : Scope) (vs : List Nat) (tg elt : Expr) (ifs : List Expr) (g : DG) (tt : DT) (te : DE) : Prop where
  g : ∃ g0 : TG, CT vs g0 ∧ (∀ v σ H Q, upG (kt X E) noE g v σ H Q → g0 v σ H Q) ∧ ∀ (s : Shared) (H : Hp) (C : Addr) (cl : List (Str × Addr)) (fp : List Addr), PG (X.blk s H scope (compEnvC scope cl C X.env) fp) tg g0
  t : ∀ (s : Shared) (H : Hp) (C : Addr) (cl : List (Str × Addr)) (fp : List Addr), PDTs (X.blk s H scope (compEnvC scope cl C X.env) fp) E ifs tt
  e : ∀ (s : Shared) (H : Hp) (C : Addr) (cl : List (Str × Addr)) (fp : List Addr), PD (X.blk s H scope (compEnvC scope cl C X.env) fp) (noE, E.2) elt te
theorem pd_lc {elt tg iter : Expr} {ifs : List Expr} {scope : Scope} {own : List (Str × Nat)} {di : DI} {tt : DT} {te : DE} (hc : X.calm = true) (hN : X.N.Nodup) (hi : PDI X E tg iter di) (ok : BlkOk X.N X.env.scope scope own)
    (B : BlkP X E scope (own.map (·.2)) tg elt ifs g tt te) (hs : ∀ x, foldedSetIterable iter X.env x = pure x := by intro _; rfl) : PD X E (.ListComp elt [⟨tg, iter, ifs, 0⟩] scope pos) (dLc di g tt te (own.map (·.2))) := by
  obtain ⟨g0, c0, l0, p0⟩ := B.g
  exact ⟨imE (pe_lc hc hN hi.pi ok p0 (fun s H C cl fp => (B.t s H C cl fp).ts) (fun s H C cl fp => (B.e s H C cl fp).pe) hs) fun _ _ _ => up_lc c0 l0⟩
theorem pds_setLc {i : Nat} {y : Str} {py spos : Pos} {elt tg iter : Expr} {ifs : List Expr} {scope : Scope} {own : List (Str × Nat)} {di : DI} {tt : DT} {te : DE} (hc : X.calm = true) (hN : X.N.Nodup) (hy : X.N[i]? = some y) (hyl : X.env.scope.names.lookup y = some .local)
    (hsw : swapsWith (.ListComp elt [⟨tg, iter, ifs, 0⟩] scope pos) (some (.Name y py)) spos.line X.env = pure true) (hi : PDI X E tg iter di) (ok : BlkOk X.N X.env.scope scope own)
    (B : BlkP X E scope (own.map (·.2)) tg elt ifs g tt te) (hs : ∀ x, foldedSetIterable iter X.env x = pure x := by intro _; rfl) : PDS X E (.Assign [.Name y py] (.ListComp elt [⟨tg, iter, ifs, 0⟩] scope pos) spos) (sAsg (dLc di g tt te (own.map (·.2))) (gN i)) := by
  obtain ⟨g0, c0, l0, p0⟩ := B.g
  refine ⟨imS (ps_setLc (te := up (kt X E) noE te) (tt := upT (kt X E) noE tt) hc hN hy hyl hsw hi.pi ok p0 (fun s H C cl fp => (B.t s H C cl fp).ts) (fun s H C cl fp => (B.e s H C cl fp).pe) hs) fun Dn σ H ⟨δ, G, DD, sr, hr, h, cn, ct, cb, cc, cx⟩ => ?_⟩
  exact up_lc c0 l0 ⟨δ, G, _, DD.ex, sr, hr, h, fun v H1 d G1 u1 h1 r1 q1 => cn _ _ _ _ u1 ((sr.up u1).set r1) h1 q1, cx⟩
end
end Cc
/-! ### what the operators do with data -/
namespace Cc
open PySem PySem.Spec PyProof.Rows L2
/-- a two-place operation on data -/
def OD (X : Cx) (f : Value → Value → Sem Value) (r2 : D2) : Prop := ∃ r : R2, OpR X f r ∧ ∀ T, Lift2 (X.K, T) r r2
def IxD (X : Cx) (r2 : D2) : Prop := ∃ r : R2, IxR X r ∧ ∀ T, Lift2 (X.K, T) r r2
def CD (X : Cx) (f : Value) (r2 : DC) : Prop := ∃ r, CallR X f r ∧ ∀ T, LiftC (X.K, T) r r2
section
variable {X : Cx} {E : EK} {a b c e : Expr} {es : List Expr} {pos : Pos} {da db dc : DE} {dl : DA} {r2 s2 : D2}
theorem pd_bin {op : Operator} (h : OD X (binaryOp op) r2) (ha : PD X E a da) (hb : PD X E b db) : PD X E (.BinOp a op b pos) (dOp r2 da db) := by
  obtain ⟨r, ho, l⟩ := h
  exact pd_op ho l ha hb
theorem pd_cp {op : CmpOp} (h : OD X (compareOp op) r2) (ha : PD X E a da) (hb : PD X E b db) (hm : behindInMarks op b = false := by first | exact nomark _ (by decide) (by decide) | rfl) : PD X E (.Compare a [op] [b] pos) (dOp r2 da db) := by
  obtain ⟨r, ho, l⟩ := h
  exact pd_cmp ho l ha hb hm
theorem pdt_cp {op : CmpOp} (h : OD X (compareOp op) r2) (ha : PD X E a da) (hb : PD X E b db) (hm : behindInMarks op b = false := by first | exact nomark _ (by decide) (by decide) | rfl) : PDT X E (.Compare a [op] [b] pos) (dTest (dOp r2 da db)) := by
  obtain ⟨r, ho, l⟩ := h
  exact pdt_cmp ho l ha hb hm
theorem pd_cp2 {op op' : CmpOp} (h : OD X (compareOp op) r2) (h' : OD X (compareOp op') s2) (ha : PD X E a da) (hb : PD X E b db) (hc : PD X E c dc) (hm : lastMarks [op, op'] [b, c] = false := by with_unfolding_all rfl) : PD X E (.Compare a [op, op'] [b, c] pos) (dChain r2 s2 da db dc) := by
  obtain ⟨r, ho, l⟩ := h
  obtain ⟨r', ho', l'⟩ := h'
  exact pd_chain ho l ho' l' ha hb hc hm
theorem pdt_cp2 {op op' : CmpOp} (h : OD X (compareOp op) r2) (h' : OD X (compareOp op') s2) (ha : PD X E a da) (hb : PD X E b db) (hc : PD X E c dc) (hm : lastMarks [op, op'] [b, c] = false := by with_unfolding_all rfl) : PDT X E (.Compare a [op, op'] [b, c] pos) (dTest (dChain r2 s2 da db dc)) := by
  obtain ⟨r, ho, l⟩ := h
  obtain ⟨r', ho', l'⟩ := h'
  exact pdt_chain ho l ho' l' ha hb hc hm
theorem pd_sub (h : IxD X r2) (ha : PD X E a da) (hb : PD X E b db) (hs : PlainIx b := by intro _ _; rfl) : PD X E (.Subscript a b pos) (dOp r2 da db) := by
  obtain ⟨r, ho, l⟩ := h
  exact pd_ix ho l ha hb hs
theorem pd_blt {id : String} {x : Str} {p : Pos} {r2 : DC} (h : CD X (.builtin id) r2) (hm : X.mg x = none) (hv : bootBuiltins x = some (.builtin id)) (ha : PDA X E (e :: es) dl) (hg : Gl X x := by rfl) (hn : x ≠ "__name__" := by decide) (hdb : (x == ("__debug__" : Str)) = false := by decide)
    (he : starEach (e :: es) X.env = (false, eval e X.env) :: starEach es X.env := by rfl) (hpl : (backTo pos (starEach es X.env)).any (·.1) = false := by rfl) : PD X E (.Call (.Name x p) (e :: es) [] pos) (dCB r2 dl) := by
  obtain ⟨r, ho, l⟩ := h
  exact pd_callB ho l hg hm hv ha hn hdb he hpl
theorem pd_btt {T : String} {x : Str} {p : Pos} {r2 : DC} (h : CD X (.type T) r2) (hm : X.mg x = none) (hv : bootBuiltins x = some (.type T)) (ha : PDA X E (e :: es) dl) (hg : Gl X x := by rfl) (hn : x ≠ "__name__" := by decide) (hdb : (x == ("__debug__" : Str)) = false := by decide)
    (he : starEach (e :: es) X.env = (false, eval e X.env) :: starEach es X.env := by rfl) (hpl : (backTo pos (starEach es X.env)).any (·.1) = false := by rfl) : PD X E (.Call (.Name x p) (e :: es) [] pos) (dCB r2 dl) := by
  obtain ⟨r, ho, l⟩ := h
  exact pd_callTy ho l hg hm hv ha hn hdb he hpl
end
/-! operators -/
theorem Lift2.or {K : KT} {r s : R2} {r2 s2 : D2} (h : Lift2 K r r2) (h' : Lift2 K s s2) : Lift2 K (fun x y H Q => r x y H Q ∨ s x y H Q) (fun x y G R => r2 x y G R ∨ s2 x y G R) := fun x y H d e G R Q a b c q cr => by
  rcases q with q | q
  · exact .inl (h x y H d e G R Q a b c q cr)
  · exact .inr (h' x y H d e G R Q a b c q cr)
theorem Lift2.imp {K : KT} {r : R2} {r2 s2 : D2} (h : Lift2 K r r2) (k : ∀ d e G R, s2 d e G R → r2 d e G R) : Lift2 K r s2 := fun x y H d e G R Q a b c q cr => h x y H d e G R Q a b c (k _ _ _ _ q) cr
section
variable {X : Cx}
def dAdd : D2 := fun x y G R => match x, y with
  | .int i, .int j => R (.int (i + j)) G
  | .str s, .str t => s.length + t.length ≤ sizeLine ∧ R (.str (s ++ t)) G
  | .ref p, .ref q => ∃ l m, G p = some (.lst l) ∧ G q = some (.lst m) ∧ l.length + m.length ≤ sizeLine ∧ ∀ n, G n = none → R (.ref n) (updD G n (.lst (l ++ m)))
  | x, y => match x.tl, y.tl with
    | some l, some m => l.length + m.length ≤ sizeLine ∧ ((l = [] → R y G) ∧ (l ≠ [] → m = [] → R x G) ∧ (l ≠ [] → m ≠ [] → R (.tup (l ++ m)) G))
    | _, _ => False
theorem tup_cat {K : KT} {H : Hp} {x y : V} {d e : D} {l m : List D} {G : DH} {R : DK} {Q : VK} (hr : HRel K G H) (rx : Dv K H x d) (ry : Dv K H y e) (e1 : d.tl = some l) (e2 : e.tl = some m) (z : l.length + m.length ≤ sizeLine)
    (q : (l = [] → R e G) ∧ (l ≠ [] → m = [] → R d G) ∧ (l ≠ [] → m ≠ [] → R (.tup (l ++ m)) G)) (cr : CloR K H Q R) : rCatA K.1 x y H Q := by
  obtain ⟨a, xs, rfl, ha, ra⟩ := rx.sqT e1
  obtain ⟨b, ys, rfl, hb, rb⟩ := ry.sqT e2
  have nl : xs = [] ↔ l = [] := by rw [← List.length_eq_zero_iff, ← List.length_eq_zero_iff, ra.length]
  have nm : ys = [] ↔ m = [] := by rw [← List.length_eq_zero_iff, ← List.length_eq_zero_iff, rb.length]
  refine ⟨a, b, xs, ys, rfl, rfl, ha, hb, by rw [ra.length, rb.length]; exact z, fun h => cr _ _ _ _ (Up.refl H) hr ry (q.1 (nl.mp h)), fun h h' => cr _ _ _ _ (Up.refl H) hr rx (q.2.1 (fun z => h (nl.mpr z)) (nm.mp h')), fun h h' p hp => ?_⟩
  exact cr _ _ _ _ (Up.new hp) (hr.new0 hp) (.tup (SqT.of upd_same) ((ra.append rb).up (Up.new hp))) (q.2.2 (fun z => h (nl.mpr z)) (fun z => h' (nm.mpr z)))
theorem od_add : OD X (binaryOp .Add) dAdd := by
  refine ⟨_, op_add.or (op_add_str.or (op_cat.or op_catA)), fun T x y H d e G R Q hr rx ry q cr => ?_⟩
  unfold dAdd at q
  split at q
  · cases rx
    cases ry
    exact .inl ⟨_, _, rfl, rfl, cr _ _ _ _ (Up.refl H) hr (.int _) q⟩
  · cases rx
    cases ry
    exact .inr (.inl ⟨_, _, rfl, rfl, q.1, cr _ _ _ _ (Up.refl H) hr (.str _) q.2⟩)
  · cases rx
    cases ry
    obtain ⟨l, m, e1, e2, z, q⟩ := q
    obtain ⟨xs, a1, a2⟩ := hr _ _ e1
    obtain ⟨ys, b1, b2⟩ := hr _ _ e2
    exact .inr (.inr (.inl ⟨_, _, xs, ys, rfl, rfl, a1, b1, by rw [a2.length, b2.length]; exact z, fun p hp => cr _ _ _ _ (Up.new hp) (hr.new (c := .lst (l ++ m)) hp ⟨_, upd_same, (a2.append b2).up (Up.new hp)⟩) (.ref p) (q p (hr.none hp))⟩))
  · split at q
    · rename_i l m e1 e2
      exact .inr (.inr (.inr (tup_cat hr rx ry e1 e2 q.1 q.2 cr)))
    · exact False.elim q
def dSub : D2 := fun x y G R => match x, y with
  | .int i, .int j => R (.int (i - j)) G
  | _, _ => False
theorem lift_I {K : KT} {C : Int → Int → Prop} {g : Int → Int → V} {g2 : Int → Int → D} (hg : ∀ i j H, Dv K H (g i j) (g2 i j)) : Lift2 K (rI C g) (fun x y G R => match x, y with
  | .int i, .int j => C i j ∧ R (g2 i j) G
  | _, _ => False) := fun x y H d e G R Q hr rx ry q cr => by
  dsimp only at q
  split at q
  · cases rx
    cases ry
    exact ⟨_, _, rfl, rfl, q.1, cr _ _ _ _ (Up.refl H) hr (hg _ _ H) q.2⟩
  · exact False.elim q
theorem lift_I0 {K : KT} {g : Int → Int → V} {g2 : Int → Int → D} (hg : ∀ i j H, Dv K H (g i j) (g2 i j)) : Lift2 K (rI0 g) (fun x y G R => match x, y with
  | .int i, .int j => R (g2 i j) G
  | _, _ => False) := fun x y H d e G R Q hr rx ry q cr => by
  dsimp only at q
  split at q
  · cases rx
    cases ry
    exact ⟨_, _, rfl, rfl, cr _ _ _ _ (Up.refl H) hr (hg _ _ H) q⟩
  · exact False.elim q
theorem od_sub : OD X (binaryOp .Sub) dSub := ⟨_, op_sub, fun _ => lift_I0 fun _ _ _ => .int _⟩
def dMul : D2 := fun x y G R => match x, y with
  | .int i, .int j => CMul i j ∧ R (.int (i * j)) G
  | .ref p, .int k => ∃ l, G p = some (.lst l) ∧ -(2 ^ 63) ≤ k ∧ k < 2 ^ 63 ∧ l.length * k.toNat ≤ sizeLine ∧ ∀ n, G n = none → R (.ref n) (updD G n (.lst (List.replicate k.toNat l).flatten))
  | _, _ => False
theorem DvL.rep {K : KT} {H : Hp} {v : List V} {d : List D} (h : DvL K H v d) : ∀ k : Nat, DvL K H (List.replicate k v).flatten (List.replicate k d).flatten
  | 0 => .nil
  | k + 1 => by rw [List.replicate_succ, List.replicate_succ, List.flatten_cons, List.flatten_cons]; exact h.append (DvL.rep h k)
theorem od_mul : OD X (binaryOp .Mult) dMul := by
  refine ⟨_, op_mul.or op_rep, fun T x y H d e G R Q hr rx ry q cr => ?_⟩
  unfold dMul at q
  split at q
  · cases rx
    cases ry
    exact .inl ⟨_, _, rfl, rfl, q.1, cr _ _ _ _ (Up.refl H) hr (.int _) q.2⟩
  · cases rx
    cases ry
    obtain ⟨l, e1, h1, h2, z, q⟩ := q
    obtain ⟨xs, a1, a2⟩ := hr _ _ e1
    exact .inr ⟨_, _, xs, rfl, rfl, a1, h1, h2, by rw [a2.length]; exact z, fun p hp => cr _ _ _ _ (Up.new hp) (hr.new (c := .lst _) hp ⟨_, upd_same, (a2.rep _).up (Up.new hp)⟩) (.ref p) (q p (hr.none hp))⟩
  · exact False.elim q
def dFdiv : D2 := fun x y G R => match x, y with
  | .int i, .int j => CDiv i j ∧ R (.int (i / j)) G
  | _, _ => False
theorem od_fdiv : OD X (binaryOp .FloorDiv) dFdiv := ⟨_, op_fdiv, fun _ => lift_I fun _ _ _ => .int _⟩
def dMod : D2 := fun x y G R => match x, y with
  | .int i, .int j => 0 < j ∧ R (.int (i % j)) G
  | _, _ => False
theorem od_mod : OD X (binaryOp .Mod) dMod := ⟨_, op_mod, fun _ => lift_I fun _ _ _ => .int _⟩
def dPow : D2 := fun x y G R => match x, y with
  | .int i, .int j => CPow i j ∧ R (.int (i ^ j.toNat)) G
  | _, _ => False
theorem od_pow : OD X (binaryOp .Pow) dPow := ⟨_, op_pow, fun _ => lift_I fun _ _ _ => .int _⟩
def dLt : D2 := fun x y G R => match x, y with
  | .int i, .int j => R (.bl (decide (i < j))) G
  | _, _ => False
theorem od_lt : OD X (compareOp .Lt) dLt := ⟨_, op_lt, fun _ => lift_I0 fun _ _ _ => .bl _⟩
def dLe : D2 := fun x y G R => match x, y with
  | .int i, .int j => R (.bl (decide (i ≤ j))) G
  | _, _ => False
theorem od_le : OD X (compareOp .LtE) dLe := ⟨_, op_le, fun _ => lift_I0 fun _ _ _ => .bl _⟩
def dGt : D2 := fun x y G R => match x, y with
  | .int i, .int j => R (.bl (decide (j < i))) G
  | _, _ => False
theorem od_gt : OD X (compareOp .Gt) dGt := ⟨_, op_gt, fun _ => lift_I0 fun _ _ _ => .bl _⟩
def dGe : D2 := fun x y G R => match x, y with
  | .int i, .int j => R (.bl (decide (j ≤ i))) G
  | _, _ => False
theorem od_ge : OD X (compareOp .GtE) dGe := ⟨_, op_ge, fun _ => lift_I0 fun _ _ _ => .bl _⟩
/-! is None -/
def D.isN : D → Bool
  | .non => true
  | _ => false
theorem Dv.isN {K : KT} {H : Hp} {v : V} {d : D} (h : Dv K H v d) : decide (v = V.non) = d.isN := by cases h <;> simp [D.isN]
def dIsN : D2 := fun x y G R => match y with
  | .non => R (.bl x.isN) G
  | _ => False
theorem od_isN : OD X (compareOp .Is) dIsN := ⟨_, op_isN, fun T x y H d e G R Q hr rx ry q cr => by
  unfold dIsN at q
  split at q
  · cases ry
    refine ⟨rfl, cr _ _ _ _ (Up.refl H) hr (.bl _) ?_⟩
    rw [rx.isN]; exact q
  · exact False.elim q⟩
def dNotN : D2 := fun x y G R => match y with
  | .non => R (.bl (!x.isN)) G
  | _ => False
theorem od_notN : OD X (compareOp .IsNot) dNotN := ⟨_, op_notN, fun T x y H d e G R Q hr rx ry q cr => by
  unfold dNotN at q
  split at q
  · cases ry
    refine ⟨rfl, cr _ _ _ _ (Up.refl H) hr (.bl _) ?_⟩
    rw [rx.isN]; exact q
  · exact False.elim q⟩
/-! == : what reads as data -/
mutual
inductive Rdd (G : DH) : D → PyData → Prop
  | non : Rdd G .non .none
  | bl (b : Bool) : Rdd G (.bl b) (.bool b)
  | int (i : Int) : Rdd G (.int i) (.int i)
  | str (x : Str) : Rdd G (.str x) (.str x)
  | tup {d : D} {l : List D} {ts : List PyData} : d.tl = some l → RddL G l ts → Rdd G d (.tuple ts)
  | rol {l : List D} {ts : List PyData} : RddL G l ts → Rdd G (.rol l) (.list ts)
  | lst {a : Addr} {l : List D} {ts : List PyData} : G a = some (.lst l) → RddL G l ts → Rdd G (.ref a) (.list ts)
inductive RddL (G : DH) : List D → List PyData → Prop
  | nil : RddL G [] []
  | cons {d : D} {ds : List D} {t : PyData} {ts : List PyData} : Rdd G d t → RddL G ds ts → RddL G (d :: ds) (t :: ts)
end
mutual
theorem Rdd.dp {K : KT} {G : DH} {H : Hp} (hr : HRel K G H) : ∀ {d : D} {t : PyData} {v : V}, Rdd G d t → Dv K H v d → Dp K.1 H v t
  | _, _, _, .non, r => by cases r; exact .non
  | _, _, _, .bl b, r => by cases r; exact .bl b
  | _, _, _, .int i, r => by cases r; exact .int i
  | _, _, _, .str x, r => by cases r; exact .str x
  | _, _, _, .tup e s, r => by
    obtain ⟨a, xs, rfl, hq, ra⟩ := r.sqT e
    exact .tup hq (RddL.dp hr s ra)
  | _, _, _, .rol s, r => by
    cases r with
    | rol hq ra => exact .lst hq.sqL (RddL.dp hr s ra)
  | _, _, _, .lst e s, r => by
    cases r
    obtain ⟨xs, e1, ra⟩ := hr _ _ e
    exact .lst (SqL.of e1) (RddL.dp hr s ra)
theorem RddL.dp {K : KT} {G : DH} {H : Hp} (hr : HRel K G H) : ∀ {d : List D} {t : List PyData} {v : List V}, RddL G d t → DvL K H v d → DpAll K.1 H v t
  | _, _, _, .nil, r => by cases r; exact .nil
  | _, _, _, .cons h s, r => by
    cases r with
    | cons r1 r2 => exact .cons (Rdd.dp hr h r1) (RddL.dp hr s r2)
end
/-- == of two values that read as data -/
def dEqG (x y : D) (G : DH) (R : Bool → Prop) : Prop := ∃ t u, Rdd G x t ∧ Rdd G y u ∧ SeqAt.shaped t = true ∧ SeqAt.shaped u = true ∧ R (PyData.eqv t u)
def dEq : D2 := fun x y G R => match x, y with
  | .int i, .int j => R (.bl (decide (i = j))) G
  | .str s, .str t => R (.bl (decide (s = t))) G
  | .bl b, .bl c => R (.bl (decide (b = c))) G
  | x, y => dEqG x y G fun k => R (.bl k) G
def dNe : D2 := fun x y G R => match x, y with
  | .int i, .int j => R (.bl (!decide (i = j))) G
  | .str s, .str t => R (.bl (!decide (s = t))) G
  | .bl b, .bl c => R (.bl (!decide (b = c))) G
  | x, y => dEqG x y G fun k => R (.bl (!k)) G
theorem dec_i {i j : Int} : decide (V.int i = V.int j) = decide (i = j) := decide_eq_decide.mpr ⟨fun h => V.int.inj h, fun h => congrArg _ h⟩
theorem dec_s {i j : Str} : decide (V.str i = V.str j) = decide (i = j) := decide_eq_decide.mpr ⟨fun h => V.str.inj h, fun h => congrArg _ h⟩
theorem dec_b {i j : Bool} : decide (V.bl i = V.bl j) = decide (i = j) := decide_eq_decide.mpr ⟨fun h => V.bl.inj h, fun h => congrArg _ h⟩
theorem od_eq (hu : X.A.units + 64 < cLine) : OD X (compareOp .Eq) dEq := ⟨_, op_eq.or (op_eqD hu), fun T x y H d e G R Q hr rx ry q cr => by
  unfold dEq at q
  split at q
  · cases rx
    cases ry
    refine .inl ⟨rfl, cr _ _ _ _ (Up.refl H) hr (.bl _) ?_⟩
    rw [dec_i]; exact q
  · cases rx
    cases ry
    refine .inl ⟨rfl, cr _ _ _ _ (Up.refl H) hr (.bl _) ?_⟩
    rw [dec_s]; exact q
  · cases rx
    cases ry
    refine .inl ⟨rfl, cr _ _ _ _ (Up.refl H) hr (.bl _) ?_⟩
    rw [dec_b]; exact q
  · obtain ⟨t, u, h1, h2, h3, h4, q⟩ := q
    exact .inr ⟨t, u, h1.dp hr rx, h2.dp hr ry, h3, h4, cr _ _ _ _ (Up.refl H) hr (.bl _) q⟩⟩
theorem od_ne (hu : X.A.units + 64 < cLine) : OD X (compareOp .NotEq) dNe := ⟨_, op_ne.or (op_neD hu), fun T x y H d e G R Q hr rx ry q cr => by
  unfold dNe at q
  split at q
  · cases rx
    cases ry
    refine .inl ⟨rfl, cr _ _ _ _ (Up.refl H) hr (.bl _) ?_⟩
    rw [dec_i]; exact q
  · cases rx
    cases ry
    refine .inl ⟨rfl, cr _ _ _ _ (Up.refl H) hr (.bl _) ?_⟩
    rw [dec_s]; exact q
  · cases rx
    cases ry
    refine .inl ⟨rfl, cr _ _ _ _ (Up.refl H) hr (.bl _) ?_⟩
    rw [dec_b]; exact q
  · obtain ⟨t, u, h1, h2, h3, h4, q⟩ := q
    exact .inr ⟨t, u, h1.dp hr rx, h2.dp hr ry, h3, h4, cr _ _ _ _ (Up.refl H) hr (.bl _) q⟩⟩
/-! subscripts -/
def D.ky : D → Option Key
  | .int i => some (.inl i)
  | .str s => some (.inr s)
  | _ => none
def lookK {κ : Type} [DecidableEq κ] (kvs : List (κ × D)) (k : κ) : Option D := (kvs.find? fun p => decide (p.1 = k)).map (·.2)
def itemOf (G : DH) (x y : D) : Option D := match x with
  | .str z => (match y with
    | .int i => if z.length ≤ sizeLine then (atI z.cps.toList i).map fun c => .str ⟨#[c]⟩ else none
    | _ => none)
  | .ref a => (match G a with
    | some (.lst l) => (match y with
      | .int i => atI l i
      | _ => none)
    | some (.dK kvs) => y.ky.bind (lookK kvs)
    | some (.dT kvs) => (match y with
      | .key ks => lookK kvs ks
      | _ => none)
    | _ => none)
  | .rol l => (match y with
    | .int i => atI l i
    | _ => none)
  | .tup l => (match y with
    | .int i => atI l i
    | _ => none)
  | .key ks => (match y with
    | .int i => atI (ks.map kD) i
    | _ => none)
  | _ => none
def dIx : D2 := fun x y G R => match itemOf G x y with
  | some d => R d G
  | none => False
theorem DvL.atI {K : KT} {H : Hp} {v : List V} {d : List D} {i : Int} {x : D} (r : DvL K H v d) (e : L2.atI d i = some x) : ∃ u, L2.atI v i = some u ∧ Dv K H u x := by
  unfold L2.atI at e ⊢
  rw [r.length]
  cases q : ixN d.length i with
  | none => rw [q] at e; cases e
  | some j =>
    rw [q] at e
    exact r.get (show d[j]? = some x from e)
theorem KVr.look {K : KT} {H : Hp} {κ : Type} [DecidableEq κ] {xs : List (κ × V)} {ys : List (κ × D)} {k : κ} : KVr K H xs ys → ∀ {d : D}, lookK ys k = some d → ∃ v, valV xs k = some v ∧ Dv K H v d := fun r => by
  induction r with
  | nil => intro d e; cases e
  | @cons p q l m h t ih =>
    intro d e
    unfold lookK at e
    rw [List.find?_cons] at e
    by_cases hk : q.1 = k
    · rw [decide_eq_true hk] at e
      cases e
      exact ⟨_, valV_pos (h.1.trans hk), h.2⟩
    · rw [decide_eq_false hk] at e
      obtain ⟨v, e1, e2⟩ := ih e
      exact ⟨v, by rw [valV_neg (fun z => hk (h.1 ▸ z))]; exact e1, e2⟩
theorem KVr.lookN {K : KT} {H : Hp} {κ : Type} [DecidableEq κ] {xs : List (κ × V)} {ys : List (κ × D)} {k : κ} : KVr K H xs ys → lookK ys k = none → valV xs k = none := fun r => by
  induction r with
  | nil => intro e; rfl
  | @cons p q l m h t ih =>
    intro e
    unfold lookK at e
    rw [List.find?_cons] at e
    by_cases hk : q.1 = k
    · rw [decide_eq_true hk] at e
      cases e
    · rw [decide_eq_false hk] at e
      rw [valV_neg (fun z => hk (h.1 ▸ z))]
      exact ih e
theorem ky_v {K : KT} {H : Hp} {v : V} {d : D} {k : Key} (h : Dv K H v d) (e : d.ky = some k) : v = kV k := by
  cases h <;> cases e <;> rfl
theorem ix_dict (hu : X.A.units + 1 < cLine) : IxR X (fun x y H Q => ∃ a v, x = .ref a ∧ DGet H a y (some v) ∧ Q v H) := by
  intro value slice pins s σ H x y v u Q I rx ry h hs
  obtain ⟨a, w', ex, g, q⟩ := h
  subst ex
  cases rx
  exact tail_any (dict_typeIs I g) PySem.F.slot_dict_getitem.lookup (d_getItem hu I g ry fun w2 s' I' r' => ⟨w', H, I', r', q⟩) hs
theorem ixd (hu : X.A.units + 1 < cLine) : IxD X dIx := ⟨_, ix_seq.or (ix_dict hu), fun T x y H d e G R Q hr rx ry q cr => by
  unfold dIx at q
  split at q
  · rename_i r er
    unfold itemOf at er
    split at er
    · cases rx
      split at er
      · cases ry
        split at er
        · rename_i z i hl
          rw [Option.map_eq_some_iff] at er
          obtain ⟨c, e1, e2⟩ := er
          subst e2
          exact .inl (.inr (.inr ⟨_, _, c, rfl, rfl, hl, e1, cr _ _ _ _ (Up.refl H) hr (.str _) q⟩))
        · cases er
      · cases er
    · cases rx
      split at er
      · rename_i a l ea
        split at er
        · cases ry
          obtain ⟨xs, e1, r1⟩ := hr _ _ ea
          obtain ⟨u, e2, r2⟩ := r1.atI er
          exact .inl (.inl ⟨_, xs, _, u, rfl, rfl, SqL.of e1, e2, cr _ _ _ _ (Up.refl H) hr r2 q⟩)
        · cases er
      · rename_i a kvs ea
        obtain ⟨k, e1, e2⟩ := Option.bind_eq_some_iff.mp er
        obtain ⟨ys, e3, r3⟩ := hr _ _ ea
        obtain ⟨u, e4, r4⟩ := r3.look e2
        rw [ky_v ry e1]
        refine .inr ⟨_, u, rfl, ?_, cr _ _ _ _ (Up.refl H) hr r4 q⟩
        rw [← e4]
        exact DGet.k e3
      · rename_i a kvs ea
        split at er
        · cases ry with
          | key eb =>
            obtain ⟨ys, e3, r3⟩ := hr _ _ ea
            obtain ⟨u, e4, r4⟩ := r3.look er
            refine .inr ⟨_, u, rfl, ?_, cr _ _ _ _ (Up.refl H) hr r4 q⟩
            rw [← e4]
            exact DGet.t e3 eb
        · cases er
      · cases er
    · split at er
      · cases ry
        cases rx with
        | rol hq r1 =>
          obtain ⟨u, e2, r2⟩ := r1.atI er
          exact .inl (.inl ⟨_, _, _, u, rfl, rfl, hq.sqL, e2, cr _ _ _ _ (Up.refl H) hr r2 q⟩)
      · cases er
    · split at er
      · cases ry
        cases rx with
        | tup hq r1 =>
          obtain ⟨u, e2, r2⟩ := r1.atI er
          exact .inl (.inr (.inl ⟨_, _, _, u, rfl, rfl, hq, e2, cr _ _ _ _ (Up.refl H) hr r2 q⟩))
      · cases er
    · split at er
      · cases ry
        cases rx with
        | key hq =>
          obtain ⟨u, e2, r2⟩ := (dvL_kD (K := (X.K, T)) (H := H) _).atI er
          exact .inl (.inr (.inl ⟨_, _, _, u, rfl, rfl, SqT.of hq, e2, cr _ _ _ _ (Up.refl H) hr r2 q⟩))
      · cases er
    · cases er
  · exact False.elim q⟩
end
end Cc
/-! ### built-ins, methods of built-in types, stores -/
namespace Cc
open PySem PySem.Spec PyProof.Rows L2
/-! in, not in -/
def D.flat : D → Bool
  | .non => true
  | .bl _ => true
  | .int _ => true
  | .str _ => true
  | _ => false
def eqF : D → D → Bool
  | .non, .non => true
  | .bl a, .bl b => a == b
  | .bl a, .int b => (if a then 1 else 0) == b
  | .int a, .bl b => a == (if b then 1 else 0)
  | .int a, .int b => a == b
  | .str a, .str b => a == b
  | _, _ => false
def inF (x : D) (l : List D) : Bool := l.any fun y => eqF y x
section
variable {K : KT} {H : Hp}
theorem Dv.flat {v : V} {d : D} (h : Dv K H v d) (f : d.flat = true) : flatV v = true := by cases h <;> first | rfl | cases f
theorem Dv.eqF {v u : V} {d e : D} (h : Dv K H v d) (h' : Dv K H u e) (f : d.flat = true) (f' : e.flat = true) : eqV v u = Cc.eqF d e := by
  cases h <;> first | cases f; done | (cases h' <;> first | rfl | cases f')
theorem DvL.flat : ∀ {v : List V} {d : List D}, DvL K H v d → d.all D.flat = true → v.all flatV = true
  | _, _, .nil, _ => rfl
  | _, _, .cons h r, f => by
    rw [List.all_cons, Bool.and_eq_true] at f ⊢
    exact ⟨h.flat f.1, DvL.flat r f.2⟩
theorem DvL.inF {u : V} {e : D} (h' : Dv K H u e) (f' : e.flat = true) : ∀ {v : List V} {d : List D}, DvL K H v d → d.all D.flat = true → inV u v = Cc.inF e d
  | _, _, .nil, _ => rfl
  | _, _, .cons h r, f => by
    rw [List.all_cons, Bool.and_eq_true] at f
    have ih := DvL.inF h' f' r f.2
    unfold inV Cc.inF at ih ⊢
    rw [List.any_cons, List.any_cons, h.eqF h' f.1 f', ih]
end
/-- what y holds, as a sequence -/
def seqOf (G : DH) (y : D) : Option (List D) := match y with
  | .ref a => (match G a with
    | some (.lst l) => some l
    | _ => none)
  | .rol l => some l
  | y => y.tl
theorem seqOf_sq {K : KT} {G : DH} {H : Hp} {v : V} {y : D} {l : List D} (hr : HRel K G H) (r : Dv K H v y) (e : seqOf G y = some l) : ∃ p xs, v = .ref p ∧ (SqL K.1 H p xs ∨ SqT K.1 H p xs) ∧ DvL K H xs l := by
  unfold seqOf at e
  split at e
  · cases r
    split at e
    · rename_i a l' ea
      cases e
      obtain ⟨xs, h1, h2⟩ := hr _ _ ea
      exact ⟨_, xs, rfl, .inl (SqL.of h1), h2⟩
    · cases e
  · cases e
    cases r with
    | rol hq h2 => exact ⟨_, _, rfl, .inl hq.sqL, h2⟩
  · obtain ⟨a, xs, h1, h2, h3⟩ := r.sqT e
    exact ⟨a, xs, h1, .inr h2, h3⟩
/-- the answer of x in y -/
def inOf (G : DH) (x y : D) : Option Bool := match y with
  | .str z => (match x with
    | .str c => if c.cps.size = 1 then some (decide (c.cps.toList.headD 0 ∈ z.cps.toList)) else none
    | _ => none)
  | .ref a => (match G a with
    | some (.lst l) => if x.flat && l.all D.flat then some (inF x l) else none
    | some (.dK kvs) => x.ky.map fun k => (lookK kvs k).isSome
    | some (.dT kvs) => (match x with
      | .key ks => some (lookK kvs ks).isSome
      | _ => none)
    | _ => none)
  | y => (match seqOf G y with
    | some l => if x.flat && l.all D.flat then some (inF x l) else none
    | none => none)
def dIn : D2 := fun x y G R => match inOf G x y with
  | some b => R (.bl b) G
  | none => False
def dNotIn : D2 := fun x y G R => match inOf G x y with
  | some b => R (.bl (!b)) G
  | none => False
theorem str1 {c : Str} (h : c.cps.size = 1) : c = ⟨#[c.cps.toList.headD 0]⟩ := by
  obtain ⟨⟨l⟩⟩ := c
  match l, h with
  | [x], _ => rfl
theorem KVr.lookS {K : KT} {H : Hp} {κ : Type} [DecidableEq κ] {xs : List (κ × V)} {ys : List (κ × D)} {k : κ} (r : KVr K H xs ys) : (valV xs k).isSome = (lookK ys k).isSome := by
  cases e : lookK ys k with
  | none =>
    rw [r.lookN e]
    rfl
  | some d =>
    obtain ⟨v, h, _⟩ := r.look e
    rw [h]
    rfl
section
variable {X : Cx}
theorem in_cases (hu : X.A.units + 1 < cLine) (neg : Bool) : ∃ r : R2, OpR X (compareOp (if neg then .NotIn else .In)) r ∧ ∀ (T : List (Addr × Str)) x y H d e G b Q, HRel (X.K, T) G H → Dv (X.K, T) H x d → Dv (X.K, T) H y e → inOf G d e = some b → Q (.bl (if neg then !b else b)) H → r x y H Q := by
  have dict : OpR X (compareOp (if neg then .NotIn else .In)) (fun x y H Q => ∃ a o, y = .ref a ∧ DGet H a x o ∧ Q (.bl (if neg then !o.isSome else o.isSome)) H) := by
    intro pins s σ H x y v u Q I rx ry h
    obtain ⟨a, o, ey, g, q⟩ := h
    subst ey
    cases ry
    cases neg with
    | false => exact d_in hu I g rx fun s' I' => ⟨.bl _, H, I', rfl, q⟩
    | true => exact d_notIn hu I g rx fun s' I' => ⟨.bl _, H, I', rfl, q⟩
  have sq : OpR X (compareOp (if neg then .NotIn else .In)) (rIn X.K neg) := by
    cases neg with
    | false => exact op_in_seq
    | true => exact op_notIn_seq
  have st : OpR X (compareOp (if neg then .NotIn else .In)) (fun x y H Q => ∃ (c : Nat) (z : Str), x = .str ⟨#[c]⟩ ∧ y = .str z ∧ Q (.bl (if neg then !decide (c ∈ z.cps.toList) else decide (c ∈ z.cps.toList))) H) := by
    cases neg with
    | false => exact op_in_sign
    | true => exact op_notIn_sign
  refine ⟨_, sq.or (st.or dict), fun T x y H d e G b Q hr rx ry q h => ?_⟩
  unfold inOf at q
  split at q
  · cases ry
    split at q
    · cases rx
      split at q
      · rename_i c hc
        cases q
        refine .inr (.inl ⟨_, _, congrArg V.str (str1 hc), rfl, h⟩)
      · cases q
    · cases q
  · cases ry
    split at q
    · rename_i a l ea
      split at q
      · rename_i hf
        cases q
        rw [Bool.and_eq_true] at hf
        obtain ⟨xs, h1, h2⟩ := hr _ _ ea
        refine .inl ⟨_, xs, rfl, .inl (SqL.of h1), rx.flat hf.1, h2.flat hf.2, ?_⟩
        rw [h2.inF rx hf.1 hf.2]
        exact h
      · cases q
    · rename_i a kvs ea
      rw [Option.map_eq_some_iff] at q
      obtain ⟨k, e1, e2⟩ := q
      obtain ⟨ys, h1, h2⟩ := hr _ _ ea
      rw [ky_v rx e1]
      refine .inr (.inr ⟨_, _, rfl, DGet.k h1, ?_⟩)
      rw [h2.lookS, e2]
      exact h
    · rename_i a kvs ea
      split at q
      · cases rx with
        | key eb =>
          cases q
          obtain ⟨ys, h1, h2⟩ := hr _ _ ea
          refine .inr (.inr ⟨_, _, rfl, DGet.t h1 eb, ?_⟩)
          rw [h2.lookS]
          exact h
      · cases q
    · cases q
  · split at q
    · rename_i l el
      split at q
      · rename_i hf
        cases q
        rw [Bool.and_eq_true] at hf
        obtain ⟨p, xs, e1, e2, h2⟩ := seqOf_sq hr ry el
        refine .inl ⟨p, xs, e1, e2, rx.flat hf.1, h2.flat hf.2, ?_⟩
        rw [h2.inF rx hf.1 hf.2]
        exact h
      · cases q
    · cases q
theorem od_in (hu : X.A.units + 1 < cLine) : OD X (compareOp .In) dIn := by
  obtain ⟨r, h1, h2⟩ := in_cases (X := X) hu false
  refine ⟨r, h1, fun T x y H d e G R Q hr rx ry q cr => ?_⟩
  unfold dIn at q
  split at q
  · rename_i b eb
    exact h2 T x y H d e G b Q hr rx ry eb (cr _ _ _ _ (Up.refl H) hr (.bl _) q)
  · exact False.elim q
theorem od_notIn (hu : X.A.units + 1 < cLine) : OD X (compareOp .NotIn) dNotIn := by
  obtain ⟨r, h1, h2⟩ := in_cases (X := X) hu true
  refine ⟨r, h1, fun T x y H d e G R Q hr rx ry q cr => ?_⟩
  unfold dNotIn at q
  split at q
  · rename_i b eb
    exact h2 T x y H d e G b Q hr rx ry eb (cr _ _ _ _ (Up.refl H) hr (.bl _) q)
  · exact False.elim q
/-! built-ins -/
def lenOf (G : DH) (x : D) : Option Nat := match x with
  | .str z => if z.length ≤ sizeLine then some z.length else none
  | .ref a => (match G a with
    | some (.lst l) => some l.length
    | some (.dK l) => some l.length
    | _ => none)
  | x => (seqOf G x).map (·.length)
def dLen : DC := fun xs G R => match xs with
  | [x] => (match lenOf G x with
    | some n => R (.int n) G
    | none => False)
  | _ => False
theorem call_lenDK : CallR X (.builtin "len") (fun xs H Q => ∃ a kvs, xs = [V.ref a] ∧ H a = some (.dK kvs) ∧ Q (.int kvs.length) H) := by
  intro pins s σ H xs us Q I r h
  obtain ⟨a, kvs, rfl, e, q⟩ := h
  obtain ⟨u, rfl, ru⟩ := vals1 r
  cases ru
  exact d_len I (.inl e) fun t s' I' => ⟨.int _, H, I', ⟨t, rfl⟩, q⟩
theorem cd_len : CD X (.builtin "len") dLen := ⟨_, call_len.or call_lenDK, fun T x H d G R Q hr r q cr => by
  unfold dLen at q
  split at q
  · cases r with
    | cons r1 r2 =>
      cases r2
      split at q
      · rename_i x n e
        have q' := cr (.int n) H _ G (Up.refl H) hr (.int _) q
        unfold lenOf at e
        split at e
        · cases r1
          split at e
          · rename_i hz
            cases e
            exact .inl ⟨_, _, rfl, ⟨hz, rfl⟩, q'⟩
          · cases e
        · cases r1
          split at e
          · rename_i a l ea
            cases e
            obtain ⟨xs, h1, h2⟩ := hr _ _ ea
            exact .inl ⟨_, _, rfl, .inl ⟨xs, SqL.of h1, h2.length.symm⟩, q'⟩
          · rename_i a l ea
            cases e
            obtain ⟨xs, h1, h2⟩ := hr _ _ ea
            refine .inr ⟨_, xs, rfl, h1, ?_⟩
            rw [Paired.length h2]
            exact q'
          · cases e
        · rw [Option.map_eq_some_iff] at e
          obtain ⟨l, e1, e2⟩ := e
          subst e2
          obtain ⟨p, xs, e3, e4, h2⟩ := seqOf_sq hr r1 e1
          subst e3
          rcases e4 with e4 | e4
          · exact .inl ⟨_, _, rfl, .inl ⟨xs, e4, h2.length.symm⟩, q'⟩
          · exact .inl ⟨_, _, rfl, .inr ⟨xs, e4, h2.length.symm⟩, q'⟩
      · exact False.elim q
  · exact False.elim q⟩
/-- a value's type's name -/
def tyD (G : DH) : D → Option String
  | .non => some "NoneType"
  | .bl _ => some "bool"
  | .int _ => some "int"
  | .str _ => some "str"
  | .tup _ => some "tuple"
  | .key _ => some "tuple"
  | .rol _ => some "list"
  | .ref a => (match G a with
    | some (.lst _) => some "list"
    | some (.dK _) => some "dict"
    | some (.dT _) => some "dict"
    | _ => none)
  | .ty _ => none
  | .rod _ => none
  | .wol _ => none
def dIsi : DC := fun xs G R => match xs with
  | [x, .ty T] => (match tyD G x with
    | some t => (match kitB t T with
      | some b => R (.bl b) G
      | none => False)
    | none => False)
  | _ => False
theorem tyX_of {K : KT} {G : DH} {H : Hp} {v : V} {d : D} {t : String} (hr : HRel K G H) (r : Dv K H v d) (e : tyD G d = some t) : TyX K.1 H v (.type t) := by
  have tupT : ∀ {a : Addr} {xs : List V}, SqT K.1 H a xs → TyX K.1 H (.ref a) (.type "tuple") := fun {a xs} h => by
    rcases h with (h | ⟨o, h⟩) | ⟨o, its, n, h1, h2, h3⟩
    · exact .base (.tup h)
    · exact .fTuple h
    · exact .kTuple h1 h2
  cases r with
  | non => cases e; exact .base .non
  | bl b => cases e; exact .base (.bl b)
  | int i => cases e; exact .base (.int i)
  | str x => cases e; exact .base (.str x)
  | ty n => cases e
  | rod _ _ => cases e
  | wol _ _ => cases e
  | tup h _ => cases e; exact tupT h
  | key h => cases e; exact tupT (SqT.of h)
  | rol h _ =>
    cases e
    obtain ⟨o, h⟩ := h
    exact .base (.frz h)
  | ref a =>
    unfold tyD at e
    dsimp only at e
    split at e
    · rename_i l ea
      cases e
      obtain ⟨xs, h1, _⟩ := hr _ _ ea
      exact .base (.lst h1)
    · rename_i l ea
      cases e
      obtain ⟨xs, h1, _⟩ := hr _ _ ea
      exact .base (.dK h1)
    · rename_i l ea
      cases e
      obtain ⟨xs, h1, _⟩ := hr _ _ ea
      exact .base (.dT h1)
    · cases e
theorem cd_isi : CD X (.builtin "isinstance") dIsi := ⟨_, call_isi, fun T x H d G R Q hr r q cr => by
  unfold dIsi at q
  split at q
  · cases r with
    | cons r1 r2 =>
      cases r2 with
      | cons r2 r3 =>
        cases r3
        cases r2
        split at q
        · rename_i t et
          split at q
          · rename_i b eb
            exact ⟨_, _, .type t, _, b, rfl, .ty _, tyX_of hr r1 et, kit_ty eb, cr _ _ _ _ (Up.refl H) hr (.bl _) q⟩
          · exact False.elim q
        · exact False.elim q
  · exact False.elim q⟩
def dAbs : DC := fun xs G R => match xs with
  | [.int i] => R (.int (if i < 0 then -i else i)) G
  | _ => False
theorem cd_abs : CD X (.builtin "abs") dAbs := ⟨_, call_abs, fun T x H d G R Q hr r q cr => by
  unfold dAbs at q
  split at q
  · cases r with
    | cons r1 r2 =>
      cases r2
      cases r1
      exact ⟨_, rfl, cr _ _ _ _ (Up.refl H) hr (.int _) q⟩
  · exact False.elim q⟩
def dMax2 : DC := fun xs G R => match xs with
  | [.int i, .int j] => R (.int (if j > i then j else i)) G
  | _ => False
theorem cd_max2 (hc : X.calm = true) : CD X (.builtin "max") dMax2 := ⟨_, call_max2 hc, fun T x H d G R Q hr r q cr => by
  unfold dMax2 at q
  split at q
  · cases r with
    | cons r1 r2 =>
      cases r2 with
      | cons r2 r3 =>
        cases r3
        cases r1
        cases r2
        exact ⟨_, _, rfl, cr _ _ _ _ (Up.refl H) hr (.int _) q⟩
  · exact False.elim q⟩
def dMin2 : DC := fun xs G R => match xs with
  | [.int i, .int j] => R (.int (if j < i then j else i)) G
  | _ => False
theorem cd_min2 (hc : X.calm = true) : CD X (.builtin "min") dMin2 := ⟨_, call_min2 hc, fun T x H d G R Q hr r q cr => by
  unfold dMin2 at q
  split at q
  · cases r with
    | cons r1 r2 =>
      cases r2 with
      | cons r2 r3 =>
        cases r3
        cases r1
        cases r2
        exact ⟨_, _, rfl, cr _ _ _ _ (Up.refl H) hr (.int _) q⟩
  · exact False.elim q⟩
def dIntC : DC := fun xs G R => match xs with
  | [.int i] => R (.int i) G
  | [.bl b] => R (.int (if b then 1 else 0)) G
  | _ => False
theorem cd_int : CD X (.type "int") dIntC := ⟨_, call_int1, fun T x H d G R Q hr r q cr => by
  unfold dIntC at q
  split at q
  · cases r with
    | cons r1 r2 =>
      cases r2
      cases r1
      exact .inl ⟨_, rfl, cr _ _ _ _ (Up.refl H) hr (.int _) q⟩
  · cases r with
    | cons r1 r2 =>
      cases r2
      cases r1
      exact .inr ⟨_, rfl, cr _ _ _ _ (Up.refl H) hr (.int _) q⟩
  · exact False.elim q⟩
/-- list(xs) -/
def dListC : DC := fun xs G R => match xs with
  | [x] => (match seqOf G x with
    | some l => ∀ p, G p = none → R (.ref p) (updD G p (.lst l))
    | none => False)
  | _ => False
theorem cd_list : CD X (.type "list") dListC := ⟨_, call_list_of, fun T x H d G R Q hr r q cr => by
  unfold dListC at q
  split at q
  · cases r with
    | cons r1 r2 =>
      cases r2
      split at q
      · rename_i l el
        obtain ⟨p, xs, e3, e4, h2⟩ := seqOf_sq hr r1 el
        subst e3
        exact ⟨p, xs, rfl, e4, fun n hn => cr _ _ _ _ (Up.new hn) (hr.new (c := .lst l) hn ⟨xs, upd_same, h2.up (Up.new hn)⟩) (.ref n) (q n (hr.none hn))⟩
      · exact False.elim q
  · exact False.elim q⟩
/-- tuple(xs) -/
def dTupC : DC := fun xs G R => match xs with
  | [.tup l] => R (.tup l) G
  | [.key l] => R (.key l) G
  | [x] => (match seqOf G x with
    | some l => R (.tup l) G
    | none => False)
  | _ => False
theorem cd_tup : CD X (.type "tuple") dTupC := ⟨_, call_tuple_of, fun T x H d G R Q hr r q cr => by
  unfold dTupC at q
  split at q
  · cases r with
    | cons r1 r2 =>
      cases r2
      cases r1 with
      | tup h r => exact ⟨_, _, rfl, .inr ⟨h, cr _ _ _ _ (Up.refl H) hr (.tup h r) q⟩⟩
  · cases r with
    | cons r1 r2 =>
      cases r2
      cases r1 with
      | key h => exact ⟨_, _, rfl, .inr ⟨SqT.of h, cr _ _ _ _ (Up.refl H) hr (.key h) q⟩⟩
  · cases r with
    | cons r1 r2 =>
      cases r2
      split at q
      · rename_i l el
        obtain ⟨p, xs, e3, e4, h2⟩ := seqOf_sq hr r1 el
        subst e3
        rcases e4 with e4 | e4
        · exact ⟨_, xs, rfl, .inl ⟨e4, fun n hn => cr _ _ _ _ (Up.new hn) (hr.new0 hn) (.tup (SqT.of upd_same) (h2.up (Up.new hn))) q⟩⟩
        · exact ⟨_, xs, rfl, .inr ⟨e4, cr _ _ _ _ (Up.refl H) hr (.tup e4 h2) q⟩⟩
      · exact False.elim q
  · exact False.elim q⟩
/-- all(a list of truths) -/
def dAll : DC := fun xs G R => match xs with
  | [.ref a] => ∃ bs : List Bool, G a = some (.lst (bs.map D.bl)) ∧ R (.bl (bs.all id)) G
  | _ => False
theorem dvl_bls {K : KT} {H : Hp} : ∀ {bs : List Bool} {xs : List V}, DvL K H xs (bs.map D.bl) → xs = bs.map V.bl
  | [], _, .nil => rfl
  | b :: bs, _, .cons h r => by
    cases h
    rw [dvl_bls r]
    rfl
theorem cd_all (hc : X.calm = true) : CD X (.builtin "all") dAll := ⟨_, cr_all hc, fun T x H d G R Q hr r q cr => by
  unfold dAll at q
  split at q
  · cases r with
    | cons r1 r2 =>
      cases r2
      cases r1
      obtain ⟨bs, e, q⟩ := q
      obtain ⟨xs, h1, h2⟩ := hr _ _ e
      rw [dvl_bls h2] at h1
      exact ⟨_, bs, rfl, SqL.of h1, cr _ _ _ _ (Up.refl H) hr (.bl _) q⟩
  · exact False.elim q⟩
end
/-! methods of built-in types -/
abbrev DM := D → List D → DH → DK → Prop
def LiftM (K : KT) (r : V → List V → Hp → VK → Prop) (r2 : DM) : Prop := ∀ x xs H d ds G R Q, HRel K G H → Dv K H x d → DvL K H xs ds → r2 d ds G R → CloR K H Q R → r x xs H Q
def MD (X : Cx) (id : String) (r2 : DM) : Prop := ∃ r, MtR X id r ∧ ∀ T, LiftM (X.K, T) r r2
/-- the receiver is of that type -/
def tyR (G : DH) (T : String) (x : D) : Prop := match x with
  | .str _ => T = "str"
  | .ref a => (match G a with
    | some (.lst _) => T = "list"
    | some (.dK _) => T = "dict"
    | some (.dT _) => T = "dict"
    | _ => False)
  | _ => False
theorem tyR_v {K : KT} {G : DH} {H : Hp} {v : V} {d : D} {T : String} (hr : HRel K G H) (r : Dv K H v d) (e : tyR G T d) : tyV K.1 T v H := by
  unfold tyR at e
  split at e
  · cases r; exact e
  · cases r
    split at e
    · rename_i l ea
      obtain ⟨xs, h1, _⟩ := hr _ _ ea
      exact .inl ⟨e, xs, SqL.of h1⟩
    · rename_i l ea
      obtain ⟨xs, h1, _⟩ := hr _ _ ea
      exact .inr (.inr (.inl ⟨e, .inl ⟨xs, h1⟩⟩))
    · rename_i l ea
      obtain ⟨xs, h1, _⟩ := hr _ _ ea
      exact .inr (.inr (.inl ⟨e, .inr ⟨xs, h1⟩⟩))
    · exact False.elim e
  · exact False.elim e
def dBM (T : String) (r2 : DM) (da : DE) (dl : DA) : DE := fun δ G R EX => da δ G (fun x G1 => tyR G1 T x ∧ dl δ G1 (fun xs G2 => r2 x xs G2 R) EX) EX
section
variable {X : Cx} {E : EK} {o e : Expr} {es : List Expr} {da : DE} {dl : DA} {name : Str} {apos cpos : Pos} {T id : String} {r2 : DM}
theorem pd_bm (pa : PlainAttrs T) (slot : Slot T name id) (hty : typeOf (.builtin id) = pure (.type "method_descriptor")) (hm : MD X id r2) (ho : PD X E o da) (ha : PDA X E (e :: es) dl)
    (hbase : attributeBase o name X.env (eval o X.env) = eval o X.env := by rfl)
    (hfew : ((backTo cpos (starEach (e :: es) X.env)).all (fun x => !x.1) && (backToKw cpos (keywordEach [] X.env)).all (fun x => x.1.isSome)
      && decide ((e :: es).length + ([] : List Keyword).length + (if ([] : List Keyword).isEmpty then 0 else 1) < 30)) = true := by rfl)
    (hline : (apos.endLine == cpos.line) = true := by rfl) (hs : starEach (e :: es) X.env = (false, eval e X.env) :: starEach es X.env := by rfl) (hplain : (backTo cpos (starEach es X.env)).any (·.1) = false := by rfl) :
    PD X E (.Call (.Attribute o name apos) (e :: es) [] cpos) (dBM T r2 da dl) := by
  obtain ⟨r, hr, l⟩ := hm
  exact ⟨imE (pe_bm pa slot hty hr ho.pe ha.pa hbase hfew hline hs hplain) fun σ H Q ⟨δ, G, R, EX, sr, hr, h, cr, cx⟩ => ⟨δ, G, _, EX, sr, hr, h, fun x H1 d G1 u1 h1 r1 q1 => ⟨tyR_v h1 r1 q1.1, δ, G1, _, EX, sr.up u1, h1, q1.2, fun xs H2 ds G2 u2 h2 r2 q2 =>
    l _ x xs H2 d ds G2 R Q h2 (r1.up u2) r2 q2 (cr.up (u1.trans u2)), cx.up u1⟩, cx⟩⟩
theorem pd_bm0 (pa : PlainAttrs T) (slot : Slot T name id) (hty : typeOf (.builtin id) = pure (.type "method_descriptor")) (hm : MD X id r2) (ho : PD X E o da)
    (hbase : attributeBase o name X.env (eval o X.env) = eval o X.env := by rfl) (hline : (apos.endLine == cpos.line) = true := by rfl) : PD X E (.Call (.Attribute o name apos) [] [] cpos) (dBM T r2 da dNil) := by
  obtain ⟨r, hr, l⟩ := hm
  exact ⟨imE (pe_bm0 pa slot hty hr ho.pe hbase hline) fun σ H Q ⟨δ, G, R, EX, sr, hr, h, cr, cx⟩ => ⟨δ, G, _, EX, sr, hr, h, fun x H1 d G1 u1 h1 r1 q1 => ⟨tyR_v h1 r1 q1.1, l _ x [] H1 d [] G1 R Q h1 r1 .nil q1.2 (cr.up u1)⟩, cx⟩⟩
def mAppend : DM := fun x xs G R => match x, xs with
  | .ref a, [y] => ∃ l, G a = some (.lst l) ∧ l.length < sizeLine ∧ R .non (updD G a (.lst (l ++ [y])))
  | _, _ => False
theorem md_append : MD X "list.append" mAppend := ⟨_, mt_append, fun T x xs H d ds G R Q hr r rs q cr => by
  unfold mAppend at q
  split at q
  · cases r
    cases rs with
    | cons r1 r2 =>
      cases r2
      obtain ⟨l, e, hl, q⟩ := q
      obtain ⟨ys, h1, h2⟩ := hr _ _ e
      have u : ∀ o, Up H (upd H _ o) := fun o => Up.put h1 trivial
      exact ⟨_, ys, _, rfl, rfl, h1, by rw [h2.length]; exact hl, cr _ _ _ _ (u _) (hr.put (c := .lst _) h1 trivial ⟨_, upd_same, (h2.up (u _)).append (.cons (r1.up (u _)) .nil)⟩) .non q⟩
  · exact False.elim q⟩
def mExtend : DM := fun x xs G R => match x, xs with
  | .ref a, [.ref b] => ∃ l m, G a = some (.lst l) ∧ G b = some (.lst m) ∧ l.length + m.length ≤ sizeLine ∧ R .non (updD G a (.lst (l ++ m)))
  | _, _ => False
theorem md_extend : MD X "list.extend" mExtend := ⟨_, mt_extend, fun T x xs H d ds G R Q hr r rs q cr => by
  unfold mExtend at q
  split at q
  · cases r
    cases rs with
    | cons r1 r2 =>
      cases r2
      cases r1
      obtain ⟨l, m, e, e', hl, q⟩ := q
      obtain ⟨ys, h1, h2⟩ := hr _ _ e
      obtain ⟨zs, g1, g2⟩ := hr _ _ e'
      have u : ∀ o, Up H (upd H _ o) := fun o => Up.put h1 trivial
      exact ⟨_, _, ys, zs, rfl, rfl, h1, g1, by rw [h2.length, g2.length]; exact hl, cr _ _ _ _ (u _) (hr.put (c := .lst _) h1 trivial ⟨_, upd_same, (h2.append g2).up (u _)⟩) .non q⟩
  · exact False.elim q⟩
def mPopAt : DM := fun x xs G R => match x, xs with
  | .ref a, [.int i] => ∃ l k y, G a = some (.lst l) ∧ -(2 ^ 63) ≤ i ∧ i < 2 ^ 63 ∧ seqIndex? i l.length = some k ∧ l[k]? = some y ∧ R y (updD G a (.lst (l.eraseIdx k)))
  | _, _ => False
theorem md_popAt : MD X "list.pop" mPopAt := ⟨_, mt_popAt, fun T x xs H d ds G R Q hr r rs q cr => by
  unfold mPopAt at q
  split at q
  · cases r
    cases rs with
    | cons r1 r2 =>
      cases r2
      cases r1
      obtain ⟨l, k, y, e, a1, a2, a3, a4, q⟩ := q
      obtain ⟨ys, h1, h2⟩ := hr _ _ e
      obtain ⟨z, b1, b2⟩ := h2.get a4
      have u : ∀ o, Up H (upd H _ o) := fun o => Up.put h1 trivial
      exact ⟨_, ys, _, k, z, rfl, rfl, h1, a1, a2, by rw [h2.length]; exact a3, b1, cr _ _ _ _ (u _) (hr.put (c := .lst _) h1 trivial ⟨_, upd_same, (h2.eraseIdx k).up (u _)⟩) (b2.up (u _)) q⟩
  · exact False.elim q⟩
def mPop : DM := fun x xs G R => match x, xs with
  | .ref a, [] => ∃ l y, G a = some (.lst l) ∧ l[l.length - 1]? = some y ∧ R y (updD G a (.lst l.dropLast))
  | _, _ => False
theorem md_pop : MD X "list.pop" mPop := ⟨_, mt_pop, fun T x xs H d ds G R Q hr r rs q cr => by
  unfold mPop at q
  split at q
  · cases r
    cases rs
    obtain ⟨l, y, e, a4, q⟩ := q
    obtain ⟨ys, h1, h2⟩ := hr _ _ e
    obtain ⟨z, b1, b2⟩ := h2.get a4
    have u : ∀ o, Up H (upd H _ o) := fun o => Up.put h1 trivial
    exact ⟨_, ys, z, rfl, rfl, h1, by rw [h2.length]; exact b1, cr _ _ _ _ (u _) (hr.put (c := .lst _) h1 trivial ⟨_, upd_same, h2.dropLast.up (u _)⟩) (b2.up (u _)) q⟩
  · exact False.elim q⟩
def mClear : DM := fun x xs G R => match x, xs with
  | .ref a, [] => (∃ l, G a = some (.lst l)) ∧ R .non (updD G a (.lst []))
  | _, _ => False
theorem md_clear : MD X "list.clear" mClear := ⟨_, mt_clear, fun T x xs H d ds G R Q hr r rs q cr => by
  unfold mClear at q
  split at q
  · cases r
    cases rs
    obtain ⟨⟨l, e⟩, q⟩ := q
    obtain ⟨ys, h1, h2⟩ := hr _ _ e
    exact ⟨_, ys, rfl, rfl, h1, cr _ _ _ _ (Up.put h1 trivial) (hr.put (c := .lst []) h1 trivial ⟨_, upd_same, .nil⟩) .non q⟩
  · exact False.elim q⟩
end
/-! stores by subscript -/
def setF (G : DH) (o i v : D) (R : DH → Prop) : Prop := match o with
  | .ref a => (match G a with
    | some (.lst l) => (match i with
      | .int k => ∃ j, ixN l.length k = some j ∧ R (updD G a (.lst (l.set j v)))
      | _ => False)
    | _ => False)
  | _ => False
def dSetL : DSet := fun o i v G R => setF G o i v R
section
variable {X : Cx}
theorem set_listD : PSet X rSetL ∧ ∀ T, LiftSet (X.K, T) rSetL dSetL := ⟨set_list, fun T o i v H d e f G R Q hr ro ri rv q k => by
  unfold dSetL setF at q
  split at q
  · cases ro
    split at q
    · rename_i a l ea
      split at q
      · cases ri
        obtain ⟨j, hj, q⟩ := q
        obtain ⟨xs, h1, h2⟩ := hr _ _ ea
        have u : ∀ o, Up H (upd H _ o) := fun o => Up.put h1 trivial
        exact ⟨_, xs, _, j, rfl, rfl, h1, by rw [h2.length]; exact hj, k _ _ (u _) (hr.put (c := .lst _) h1 trivial ⟨_, upd_same, (DvL.set rv j h2).up (u _)⟩) q⟩
      · exact False.elim q
    · exact False.elim q
  · exact False.elim q⟩
end
/-! slices -/
abbrev DO := DS → DH → (Option Int → DH → Prop) → DX → Prop
def CloO (K : KT) (H : Hp) (Q : Option Int → Hp → Prop) (R : Option Int → DH → Prop) : Prop := ∀ b H' G', Up H H' → HRel K G' H' → R b G' → Q b H'
def upO (K : KT) (E : XK) (de : DO) : TO := fun σ H Q => ∃ δ G R EX, SRel K H σ δ ∧ HRel K G H ∧ de δ G R EX ∧ CloO K H Q R ∧ CloX K H E EX
structure PDO (X : Cx) (E : EK) (e : Option Expr) (de : DO) : Prop where
  po : PO X e (upO (kt X E) E.1 de)
def oNo : DO := fun _ G R _ => R none G
def oSome (da : DE) : DO := fun δ G R EX => da δ G (fun x G1 => match x with
  | .int i => R (some i) G1
  | _ => False) EX
theorem imO {X : Cx} {e : Option Expr} {t u : TO} (h : PO X e t) (k : ∀ σ H Q, u σ H Q → t σ H Q) : PO X e u := ⟨fun pins s σ H Q I q => h.run pins s σ H Q I (k σ H Q q)⟩
def SlD (X : Cx) (r2 : D → Option Int → Option Int → DH → DK → Prop) : Prop := ∃ r, SlR X r ∧ ∀ (T : List (Addr × Str)) x lo hi H d G R Q, HRel (X.K, T) G H → Dv (X.K, T) H x d → r2 d lo hi G R → CloR (X.K, T) H Q R → r x lo hi H Q
def dSl (r2 : D → Option Int → Option Int → DH → DK → Prop) (da : DE) (dl dh : DO) : DE := fun δ G R EX => da δ G (fun x G1 => dl δ G1 (fun l G2 => dh δ G2 (fun h G3 => r2 x l h G3 R) EX) EX) EX
section
variable {X : Cx} {E : EK} {e : Expr} {lo hi : Option Expr} {de : DE} {dl dh : DO} {pos p2 : Pos} {r2 : D → Option Int → Option Int → DH → DK → Prop}
theorem pdo_none : PDO X E none oNo := ⟨imO po_none fun σ H Q ⟨δ, G, R, EX, sr, hr, h, cr, cx⟩ => cr _ _ _ (Up.refl H) hr h⟩
theorem pdo_some (h : PD X E e de) : PDO X E (some e) (oSome de) := ⟨imO (po_some h.pe) fun σ H Q ⟨δ, G, R, EX, sr, hr, h, cr, cx⟩ => ⟨δ, G, _, EX, sr, hr, h, fun x H1 d G1 u1 h1 r1 q1 => by
  cases r1 with
  | int i => exact ⟨i, rfl, cr _ _ _ u1 h1 q1⟩
  | _ => exact False.elim q1, cx⟩⟩
theorem pd_slice (hr : SlD X r2) (he : PD X E e de) (hl : PDO X E lo dl) (hu : PDO X E hi dh) : PD X E (.Subscript e (.Slice lo hi none p2) pos) (dSl r2 de dl dh) := by
  obtain ⟨r, h1, h2⟩ := hr
  exact ⟨imE (pe_slice h1 he.pe hl.po hu.po) fun σ H Q ⟨δ, G, R, EX, sr, hr, h, cr, cx⟩ => ⟨δ, G, _, EX, sr, hr, h, fun x H1 d G1 u1 h1 r1 q1 => ⟨δ, G1, _, EX, sr.up u1, h1, q1, fun l H2 G2 u2 h2' q2 => ⟨δ, G2, _, EX, sr.up (u1.trans u2), h2', q2, fun u H3 G3 u3 h3 q3 =>
    h2 _ x l u H3 d G3 R Q h3 (r1.up (u2.trans u3)) q3 (cr.up (u1.trans (u2.trans u3))), cx.up (u1.trans u2)⟩, cx.up u1⟩, cx⟩⟩
def cutD (xs : List D) (lo hi : Option Int) : List D := (xs.drop (HT.sIx xs.length 0 lo)).take (HT.sIx xs.length xs.length hi - HT.sIx xs.length 0 lo)
theorem DvL.cut {K : KT} {H : Hp} {v : List V} {d : List D} (h : DvL K H v d) (lo hi : Option Int) : DvL K H (cutV v lo hi) (cutD d lo hi) := by
  unfold cutV cutD
  rw [h.length]
  exact (h.drop _).take _
/-- a tuple's, a list's slice -/
def sSl : D → Option Int → Option Int → DH → DK → Prop := fun x lo hi G R => match x with
  | .ref a => ∃ l, G a = some (.lst l) ∧ ∀ p, G p = none → R (.ref p) (updD G p (.lst (cutD l lo hi)))
  | x => (match x.tl with
    | some l => (HT.sIx l.length 0 lo = 0 ∧ HT.sIx l.length l.length hi = l.length → R x G) ∧ (¬ (HT.sIx l.length 0 lo = 0 ∧ HT.sIx l.length l.length hi = l.length) → R (.tup (cutD l lo hi)) G)
    | none => False)
theorem sld : SlD X sSl := ⟨_, sl_list.or sl_tupA, fun T x lo hi H d G R Q hr r q cr => by
  unfold sSl at q
  split at q
  · cases r
    obtain ⟨l, e, q⟩ := q
    obtain ⟨xs, h1, h2⟩ := hr _ _ e
    exact .inl ⟨_, xs, rfl, SqL.of h1, fun p hp => cr _ _ _ _ (Up.new hp) (hr.new (c := .lst _) hp ⟨_, upd_same, (h2.cut lo hi).up (Up.new hp)⟩) (.ref p) (q p (hr.none hp))⟩
  · split at q
    · rename_i l el
      obtain ⟨a, xs, h1, h2, h3⟩ := r.sqT el
      refine .inr ⟨a, xs, h1, h2, fun hw => ?_, fun hw p hp => ?_⟩
      · rw [h3.length] at hw
        subst h1
        exact cr _ _ _ _ (Up.refl H) hr r (q.1 hw)
      · rw [h3.length] at hw
        exact cr _ _ _ _ (Up.new hp) (hr.new0 hp) (.tup (SqT.of upd_same) ((h3.cut lo hi).up (Up.new hp))) (q.2 hw)
    · exact False.elim q⟩
end
end Cc
/-! ### objects, dicts, defs -/
namespace Cc
open PySem PySem.Spec PyProof.Rows L2
/-! what a def promises -/
def startD (N : List Str) (ds : List D) : DS := ds.map some ++ List.replicate (N.length - ds.length) none
theorem srel_start {K : KT} {H : Hp} {N : List Str} : ∀ {vs : List V} {ds : List D}, DvL K H vs ds → SRel K H (L2.start N vs) (startD N ds) := fun {vs ds} r => by
  refine ⟨by unfold L2.start startD; simp [r.length], fun i d e => ?_⟩
  unfold startD at e
  unfold L2.start
  by_cases hi : i < ds.length
  · rw [List.getElem?_append_left (by rw [List.length_map]; exact hi), List.getElem?_map] at e
    rw [List.getElem?_append_left (by rw [List.length_map, r.length]; exact hi), List.getElem?_map]
    cases q : ds[i]? with
    | none => rw [q] at e; cases e
    | some d' =>
      rw [q] at e
      cases e
      obtain ⟨v, h1, h2⟩ := r.get q
      exact ⟨v, by rw [h1]; rfl, h2⟩
  · rw [List.getElem?_append_right (by rw [List.length_map]; omega), List.getElem?_replicate] at e
    split at e <;> cases e
abbrev endsD (R : DK) (EX : DX) : DEnds := { nx := fun _ G => R .non G, rt := R, ex := EX }
/-- the body of a def keeps a reading, wherever it is entered -/
def BodyD (P : Program) (w : World) (K : PySem.W.Frag) (T : List (Addr × Str)) (cv : Value → Prop) (mg : Str → Option Value) (base : Heap) (N : List Str) (qual : Str) (scope : Scope) (body : List Stmt) (k : Nat) (sb : DSt) : Prop :=
  ∀ (f : Addr) (cdv : Value) (A : Around) (outer : List Env) (s : Shared) (H : Hp) (E : XK), cv cdv → Room k (A.deeper (envOfC qual scope s.heap.objs.size f cdv)) → PDSs (cxOf (L2N.CX P w) P w K mg base N qual scope f cdv A outer s H E) (E, T) body sb
section
variable {P : Program} {w : World} {K : PySem.W.Frag} {T : List (Addr × Str)} {cv : Value → Prop} {mg : Str → Option Value} {base : Heap} {N ps : List Str} {x qual : Str} {params : Arguments} {body : List Stmt} {scope : Scope} {dvs : List V} {kws : List (Str × V)} {f : Addr} {fd : FuncData} {k : Nat} {sb : DSt} {sd : SpD}
theorem okD (F : FunD K x qual params body scope dvs kws f fd) (S : FnScope N ps scope) (hcv : cv fd.code) (len : ∀ ds G R EX, sd ds G R EX → ds.length = ps.length) (B : BodyD P w K T cv mg base N qual scope body k sb)
    (hp : ∀ ds G R EX, sd ds G R EX → sb (endsD R EX) (startD N ds) G) : FnOk P w K mg base (L2N.CX P w) (k + 1) f fd ps (upF (K, T) sd) := by
  obtain ⟨oc, od, dV, kV, doc, pm, an, cdv, ct, osl, rfl, lk, hcd, _, _⟩ := F.ex
  refine fn_of lk hcd S (fun vs H Q E ⟨ds, G, R, EX, dv, hr, h, cr, cx⟩ => dv.length.trans (len ds G R EX h)) fun A outer s H vs Q E hr ⟨ds, G, R, EX, dv, hG, h, cr, cx⟩ => ?_
  refine ⟨upS (K, T) E sb, (B f cdv A outer s H E hcv hr).ps, startD N ds, G, endsD R EX, srel_start dv, hG, hp ds G R EX h, fun σ' H' δ' G' u s2 h2 q => cr _ _ _ _ u h2 .non q, cr, fun _ _ _ _ _ _ _ q => q.elim, fun _ _ _ _ _ _ _ q => q.elim, cx⟩
theorem tkD {cdv : Value} {A : Around} {outer : List Env} {s : Shared} {H : Hp} {E : XK} : L2N.Takes (cxOf (L2N.CX P w) P w K mg base N qual scope f cdv A outer s H E) (fun cls d _ H => E cls d H) := L2N.takes_of rfl rfl rfl rfl
theorem psD {cdv : Value} {A : Around} {outer : List Env} {s : Shared} {H : Hp} {E : XK} : Passes (L2N.CX P w) (cxOf (L2N.CX P w) P w K mg base N qual scope f cdv A outer s H E) E := L2N.passes_call tkD fun _ _ _ _ h => h
theorem poD {cdv : Value} {A : Around} {outer : List Env} {s : Shared} {H : Hp} {E : XK} : PassesOwn (model P w) (cxOf (L2N.CX P w) P w K mg base N qual scope f cdv A outer s H E).A (cxOf (L2N.CX P w) P w K mg base N qual scope f cdv A outer s H E).env (cxOf (L2N.CX P w) P w K mg base N qual scope f cdv A outer s H E).xe := passes_of rfl
/-- a call that lets nothing out -/
theorem passN {X : Cx} : Passes (L2N.CX X.prog X.w) X (fun _ _ _ => False) := fun _ _ _ _ _ _ _ ⟨_, _, _, _, _, _, _, _, _, _, _, _, z⟩ => z.elim
/-- a weaker promise -/
theorem impD {K : KT} {Fr : PySem.W.Frag} {CX : CXT} {sd sd' : SpD} (F : FnOk P w Fr mg base CX k f fd ps (upF K sd)) (h : ∀ ds G R EX, sd' ds G R EX → sd ds G R EX) : FnOk P w Fr mg base CX k f fd ps (upF K sd') :=
  F.imp fun vs H Q E ⟨ds, G, R, EX, dv, hr, q, cr, cx⟩ => ⟨ds, G, R, EX, dv, hr, h _ _ _ _ q, cr, cx⟩
end
/-! fields -/
def fld (fs : List (Str × D)) (f : Str) : Option D := fs.lookup f
def putFD (f : Str) (v : D) : List (Str × D) → List (Str × D)
  | [] => [(f, v)]
  | p :: r => if p.1 = f then (p.1, v) :: r else p :: putFD f v r
theorem KVr.fld {K : KT} {H : Hp} {xs : List (Str × V)} {ys : List (Str × D)} {f : Str} : KVr K H xs ys → ∀ {d : D}, ys.lookup f = some d → ∃ v, xs.lookup f = some v ∧ Dv K H v d := fun r => by
  induction r with
  | nil => intro d e; cases e
  | @cons p q l m h t ih =>
    intro d e
    obtain ⟨p1, p2⟩ := p
    obtain ⟨q1, q2⟩ := q
    obtain ⟨h1, h2⟩ := h
    dsimp only at h1 h2
    subst h1
    rw [List.lookup_cons] at e ⊢
    cases hb : f == p1 with
    | true => rw [hb] at e; cases e; exact ⟨p2, rfl, h2⟩
    | false => rw [hb] at e; exact ih e
theorem KVr.fldN {K : KT} {H : Hp} {xs : List (Str × V)} {ys : List (Str × D)} {f : Str} : KVr K H xs ys → ys.lookup f = none → xs.lookup f = none := fun r => by
  induction r with
  | nil => intro e; rfl
  | @cons p q l m h t ih =>
    intro e
    obtain ⟨p1, p2⟩ := p
    obtain ⟨q1, q2⟩ := q
    obtain ⟨h1, h2⟩ := h
    dsimp only at h1 h2
    subst h1
    rw [List.lookup_cons] at e ⊢
    cases hb : f == p1 with
    | true => rw [hb] at e; cases e
    | false => rw [hb] at e; exact ih e
theorem KVr.putF {K : KT} {H : Hp} {xs : List (Str × V)} {ys : List (Str × D)} {f : Str} {v : V} {d : D} (hd : Dv K H v d) : KVr K H xs ys → KVr K H (L2.putF f v xs) (putFD f d ys) := fun r => by
  induction r with
  | nil => exact .cons ⟨rfl, hd⟩ .nil
  | @cons p q l m h t ih =>
    obtain ⟨p1, p2⟩ := p
    obtain ⟨q1, q2⟩ := q
    obtain ⟨h1, h2⟩ := h
    dsimp only at h1 h2
    subst h1
    unfold L2.putF putFD
    by_cases hb : p1 = f
    · rw [if_pos hb, if_pos hb]
      exact .cons ⟨by first | rfl | exact hb.symm | exact hb, hd⟩ t
    · rw [if_neg hb, if_neg hb]
      exact .cons ⟨rfl, h2⟩ ih
theorem KVr.len {K : KT} {H : Hp} {κ : Type} {xs : List (κ × V)} {ys : List (κ × D)} (r : KVr K H xs ys) : xs.length = ys.length := Paired.length r
/-- o.f, o of the class at Cl -/
def dFld (Cl : Addr) (f : Str) (da : DE) : DE := fun δ G R EX => da δ G (fun x G1 => match x with
  | .ref a => (match G1 a with
    | some (.ins c fs) => c = Cl ∧ (match fs.lookup f with
      | some d => R d G1
      | none => False)
    | _ => False)
  | _ => False) EX
section
variable {X : Cx} {E : EK} {a b c e o value : Expr} {es rest : List Expr} {pos pos' apos : Pos} {da db dc de : DE} {dA dB : DT} {dl : DA} {Cl : Addr} {f m x : Str}
theorem pd_fld (cl : Cls X.K Cl) (na : NoAttr X.K Cl f) (he : PD X E e da) (hb : attributeBase e f X.env (eval e X.env) = eval e X.env := by rfl) : PD X E (.Attribute e f pos) (dFld Cl f da) :=
  ⟨imE (pe_fld he.pe hb) fun σ H Q ⟨δ, G, R, EX, sr, hr, h, cr, cx⟩ => ⟨δ, G, _, EX, sr, hr, h, fun x H1 d G1 u1 h1 r1 q1 => by
    dsimp only at q1
    split at q1
    · cases r1
      split at q1
      · rename_i a c fs ea
        obtain ⟨hc, q1⟩ := q1
        subst hc
        split at q1
        · rename_i d ed
          obtain ⟨dx, ys, e1, e2⟩ := h1 _ _ ea
          obtain ⟨v, e3, e4⟩ := e2.fld ed
          exact ⟨_, _, dx, ys, v, rfl, e1, cl, na, e3, cr _ _ _ _ u1 h1 e4 q1⟩
        · exact False.elim q1
      · exact False.elim q1
    · exact False.elim q1, cx⟩⟩
/-- o.f = e -/
def sFldD (Cl : Addr) (f : Str) (da dv : DE) : DSt := fun D δ G => dv δ G (fun y G1 => da δ G1 (fun x G2 => match x with
  | .ref a => (match G2 a with
    | some (.ins c fs) => c = Cl ∧ fs.length < 1000 ∧ D.nx δ (updD G2 a (.ins c (putFD f y fs)))
    | _ => False)
  | _ => False) D.ex) D.ex
theorem pds_fld (cl : Cls X.K Cl) (na : NoAttr X.K Cl f) (ha : PD X E o da) (hv : PD X E value dc) (hs : swapsWith value (some (.Attribute o f pos')) pos.line X.env = pure false := by rfl) : PDS X E (.Assign [.Attribute o f pos'] value pos) (sFldD Cl f da dc) :=
  ⟨imS (ps_fld ha.pe hv.pe hs) fun Dn σ H ⟨δ, G, DD, sr, hr, h, cn, ct, cb, cc, cx⟩ => ⟨δ, G, _, DD.ex, sr, hr, h, fun y H1 d G1 u1 h1 r1 q1 => ⟨δ, G1, _, DD.ex, sr.up u1, h1, q1, fun x H2 d2 G2 u2 h2 r2 q2 => by
    dsimp only at q2
    split at q2
    · cases r2
      split at q2
      · rename_i a c fs ea
        obtain ⟨hc, hl, q2⟩ := q2
        subst hc
        obtain ⟨dx, ys, e1, e2⟩ := h2 _ _ ea
        have u : ∀ o, Up H2 (upd H2 _ o) := fun o => Up.put e1 trivial
        have u12 := u1.trans u2
        refine ⟨_, _, dx, ys, rfl, e1, cl, na, by rw [e2.len]; exact hl, ?_⟩
        exact cn _ _ _ _ (u12.trans (u _)) (sr.up (u12.trans (u _))) (h2.put (c := .ins _ (putFD f d fs)) e1 trivial ⟨dx, _, upd_same, KVr.putF (r1.up (u2.trans (u _))) (e2.up (u _))⟩) q2
      · exact False.elim q2
    · exact False.elim q2, cx.up u1⟩, cx⟩⟩
/-- o.m(..) -/
def dMeth (Cl : Addr) (m : Str) (sd : SpD) (da : DE) (dl : DA) : DE := fun δ G R EX => da δ G (fun x G1 => match x with
  | .ref a => (match G1 a with
    | some (.ins c fs) => c = Cl ∧ fs.lookup m = none ∧ dl δ G1 (fun xs G2 => sd (.ref a :: xs) G2 R EX) EX
    | _ => False)
  | _ => False) EX
theorem up_meth {sd : SpD} {σ : L2.St} {H : Hp} {Q : VK} : up (kt X E) E.1 (dMeth Cl m sd da dl) σ H Q → tMeth Cl m (upF (kt X E) sd) [] E.1 (up (kt X E) E.1 da) (upA (kt X E) E.1 dl) σ H Q := fun ⟨δ, G, R, EX, sr, hr, h, cr, cx⟩ =>
  ⟨δ, G, _, EX, sr, hr, h, fun x H1 d G1 u1 h1 r1 q1 => by
    dsimp only at q1
    split at q1
    · cases r1
      split at q1
      · rename_i a c fs ea
        obtain ⟨hc, hl, q1⟩ := q1
        subst hc
        obtain ⟨dx, ys, e1, e2⟩ := h1 _ _ ea
        refine ⟨_, dx, ys, rfl, e1, e2.fldN hl, δ, G1, _, EX, sr.up u1, h1, q1, fun vs H2 ds G2 u2 h2 r2 q2 => ?_, cx.up u1⟩
        show upF (kt X E) sd (_ :: (vs ++ [])) H2 Q E.1
        rw [List.append_nil]
        exact ⟨_, G2, R, EX, .cons (.ref _) r2, h2, q2, cr.up (u1.trans u2), cx.up (u1.trans u2)⟩
      · exact False.elim q1
    · exact False.elim q1, cx⟩
variable {CX : CXT} {k : Nat} {g : Addr} {fd : FuncData} {ps : List Str} {sd : SpD} {p : Pos}
theorem pd_meth {pl : Sem Bool} (he : PD X E o da) (cl : Cls X.K Cl) (hm : Meth X.K Cl m g) (F : FnOk X.prog X.w X.K X.mg X.base CX k g fd ps (upF (kt X E) sd)) (hr : Room k X.A) (hb : Binds X.K fd ps []) (hx : Passes CX X E.1) (ha : PDA X E (e :: es) dl)
    (hst : starEach (e :: es) X.env = (false, eval e X.env) :: starEach es X.env := by rfl) (hpl : (backTo pos (starEach es X.env)).any (·.1) = false := by rfl)
    (ht : eval (.Call (.Attribute o m apos) (e :: es) [] pos) X.env = (do
      let ov ← eval o X.env
      standAt apos.atName
      let (f, first) ← holding [ov] (getMethod ov m pl)
      callWith pos f first (backTo pos (starEach (e :: es) X.env)) (backToKw pos (keywordEach [] X.env))) := by rfl) :
    PD X E (.Call (.Attribute o m apos) (e :: es) [] pos) (dMeth Cl m sd da dl) := ⟨imE (pe_meth he.pe cl hm F hr hb .nil hx ha.pa hst hpl ht) fun _ _ _ => up_meth⟩
theorem pd_meth0 {pl : Sem Bool} (he : PD X E o da) (cl : Cls X.K Cl) (hm : Meth X.K Cl m g) (F : FnOk X.prog X.w X.K X.mg X.base CX k g fd ps (upF (kt X E) sd)) (hr : Room k X.A) (hb : Binds X.K fd ps []) (hx : Passes CX X E.1)
    (ht : eval (.Call (.Attribute o m apos) [] [] pos) X.env = (do
      let ov ← eval o X.env
      standAt apos.atName
      let (f, first) ← holding [ov] (getMethod ov m pl)
      callWith pos f first (backTo pos (starEach [] X.env)) (backToKw pos (keywordEach [] X.env))) := by rfl) :
    PD X E (.Call (.Attribute o m apos) [] [] pos) (dMeth Cl m sd da dNil) := ⟨imE (pe_meth0 he.pe cl hm F hr hb .nil hx ht) fun σ H Q h => up_meth (dl := dNil) (by
      obtain ⟨δ, G, R, EX, sr, hr, h, cr, cx⟩ := h
      exact ⟨δ, G, R, EX, sr, hr, h, cr, cx⟩) |> fun h => by
      obtain ⟨δ, G, R, EX, sr, hr, h, cr, cx⟩ := h
      refine ⟨δ, G, R, EX, sr, hr, h, fun v H' d G' u1 h1 r1 q1 => ?_, cx⟩
      obtain ⟨a, dx, fs, e1, e2, e3, δ2, G2, R2, EX2, s2, h2, q2, cr2, cx2⟩ := cr v H' d G' u1 h1 r1 q1
      exact ⟨a, dx, fs, e1, e2, e3, cr2 _ _ _ _ (Up.refl _) h2 .nil q2⟩⟩
/-- Cl(..) -/
def dMake (Cl : Addr) (sd : SpD) (dl : DA) : DE := fun δ G R EX => dl δ G (fun xs G1 => ∀ x, G1 x = none → sd (.ref x :: xs) (updD G1 x (.ins Cl [])) (fun d G2 => match d with
  | .non => R (.ref x) G2
  | _ => False) EX) EX
theorem up_make {sd : SpD} {σ : L2.St} {H : Hp} {Q : VK} : up (kt X E) E.1 (dMake Cl sd dl) σ H Q → tMake Cl (upF (kt X E) sd) [] E.1 (upA (kt X E) E.1 dl) σ H Q := fun ⟨δ, G, R, EX, sr, hr, h, cr, cx⟩ =>
  ⟨δ, G, _, EX, sr, hr, h, fun vs H1 ds G1 u1 h1 r1 q1 => fun x dx nx ndx nex => by
    have n2 : upd H1 dx (.own x) x = none := by rw [upd_ne (fun e => nex e.symm)]; exact nx
    have ua : Up H1 (upd H1 dx (.own x)) := Up.new ndx
    have ub : Up (upd H1 dx (.own x)) (upd (upd H1 dx (.own x)) x (.ins Cl dx [])) := Up.new n2
    have hG := (h1.new0 (o := .own x) ndx).new (c := .ins Cl []) (o := .ins Cl dx []) n2 ⟨dx, [], upd_same, .nil⟩
    show upF (kt X E) sd (.ref x :: (vs ++ [])) _ _ E.1
    rw [List.append_nil]
    refine ⟨_, _, _, EX, .cons (.ref x) (r1.up (ua.trans ub)), hG, q1 x (h1.none nx), fun v H2 d G2 u2 h2 r2 q2 => ?_, cx.up (u1.trans (ua.trans ub))⟩
    dsimp only at q2
    split at q2
    · cases r2
      exact ⟨rfl, cr _ _ _ _ (u1.trans (ua.trans (ub.trans u2))) h2 (.ref x) q2⟩
    · exact False.elim q2, cx⟩
theorem pd_make (M : Mk X.K Cl g) (F : FnOk X.prog X.w X.K X.mg X.base CX k g fd ps (upF (kt X E) sd)) (hr : Room (k + 1) X.A) (hm : X.mg x = some (.ref Cl)) (hb : Binds X.K fd ps []) (hx : Passes CX X E.1)
    (ha : PDA X E (e :: es) dl) (hg : Gl X x := by rfl) (hdb : (x == ("__debug__" : Str)) = false := by decide) (he : starEach (e :: es) X.env = (false, eval e X.env) :: starEach es X.env := by rfl) (hpl : (backTo pos (starEach es X.env)).any (·.1) = false := by rfl) :
    PD X E (.Call (.Name x p) (e :: es) [] pos) (dMake Cl sd dl) := ⟨imE (pe_make M F hr hg hm hb .nil hx ha.pa hdb he hpl) fun _ _ _ => up_make⟩
theorem pd_make0 (M : Mk X.K Cl g) (F : FnOk X.prog X.w X.K X.mg X.base CX k g fd ps (upF (kt X E) sd)) (hr : Room (k + 1) X.A) (hm : X.mg x = some (.ref Cl)) (hb : Binds X.K fd ps []) (hx : Passes CX X E.1)
    (hg : Gl X x := by rfl) (hdb : (x == ("__debug__" : Str)) = false := by decide) : PD X E (.Call (.Name x p) [] [] pos) (dMake Cl sd dNil) := ⟨imE (pe_make0 M F hr hg hm hb .nil hx hdb) fun σ H Q h => by
      obtain ⟨δ, G, R, EX, sr, hr, h, cr, cx⟩ := up_make h
      exact cr [] H [] _ (Up.refl H) hr .nil h⟩
end
/-! errors -/
/-- raise x('..'), x an own class over ValueError without its own making -/
structure ErrC (K : PySem.W.Frag) (mg : Str → Option Value) (x : Str) (C : Addr) : Prop where
  q : PySem.W.excIn K C [.type "ValueError", .type "Exception", .type "BaseException", .type "object"] "ValueError.__new__" = true
  g : mg x = some (.ref C)
  k : PySem.W.keepIn K (.ref C) = true
  b : PySem.W.subIn K (.ref C) (.type "BaseException") = some true
  t : PySem.W.typeIn K (.ref C) = some (.type "type")
def sRaise (C : Addr) : DSt := fun D _ G => D.ex (.ref C) none G
section
variable {X : Cx} {E : EK} {x m : Str} {C : Addr} {pos pos2 p p2 : Pos} {j : Nat}
theorem pds_raise (T : ErrC X.K X.mg x C) (tk : L2N.Takes X (fun cls d _ H => E.1 cls d H)) (hc : X.calm = true := by rfl) (hg : Gl X x := by rfl) (hdb : (x == ("__debug__" : Str)) = false := by decide) : PDS X E (.Raise (some (.Call (.Name x p) [.Constant (.str m) j p2] [] pos)) none pos2) (sRaise C) :=
  ⟨imS (L2N.ps_raise hc tk (L2N.pmk_own PySem.F.excBase_ValueError T.q T.g T.k (raises_own T.b T.t) hg hdb)) fun Dn σ H ⟨δ, G, DD, sr, hr, h, cn, ct, cb, cc, cx⟩ => cx _ _ _ _ (Up.refl H) hr h⟩
end
end Cc
/-! ### what the module's names stand for; blocks of comprehensions -/
namespace Cc
open PySem PySem.Spec PyProof.Rows L2
/-- a def of the module, by its name: its promise at a level -/
structure Fn (P : Program) (w : World) (K : KT) (mg : Str → Option Value) (base : Heap) (x : Str) (k : Nat) (ps : List Str) (sd : SpD) : Prop where
  ex : ∃ f fd, FnOk P w K.1 mg base (L2N.CX P w) k f fd ps (upF K sd) ∧ mg x = some (.ref f) ∧ PySem.W.keepIn K.1 (.ref f) = true ∧ Binds K.1 fd ps []
/-- a method -/
structure Mt (P : Program) (w : World) (K : KT) (mg : Str → Option Value) (base : Heap) (C : Addr) (m : Str) (k : Nat) (ps : List Str) (sd : SpD) : Prop where
  ex : ∃ f fd, FnOk P w K.1 mg base (L2N.CX P w) k f fd ps (upF K sd) ∧ Meth K.1 C m f ∧ Binds K.1 fd ps []
/-- a class that is called -/
structure Mr (P : Program) (w : World) (K : KT) (mg : Str → Option Value) (base : Heap) (x : Str) (C : Addr) (k : Nat) (ps : List Str) (sd : SpD) : Prop where
  ex : ∃ f fd, FnOk P w K.1 mg base (L2N.CX P w) k f fd ps (upF K sd) ∧ Mk K.1 C f ∧ mg x = some (.ref C) ∧ Binds K.1 fd ps []
section
variable {X : Cx} {E : EK} {a b c e o : Expr} {es : List Expr} {pos p apos : Pos} {da : DE} {dl : DA} {k j : Nat} {ps : List Str} {sd : SpD} {x m : Str} {Cl : Addr}
theorem pd_fn (F : Fn X.prog X.w (kt X E) X.mg X.base x k ps sd) (hr : Room j X.A) (hx : Passes (L2N.CX X.prog X.w) X E.1) (ha : PDA X E (e :: es) dl) (hk : k ≤ j := by decide) (hg : Gl X x := by rfl) (hdb : (x == ("__debug__" : Str)) = false := by decide)
    (he : starEach (e :: es) X.env = (false, eval e X.env) :: starEach es X.env := by rfl) (hpl : (backTo pos (starEach es X.env)).any (·.1) = false := by rfl) : PD X E (.Call (.Name x p) (e :: es) [] pos) (dCall sd dl) := by
  obtain ⟨f, fd, F, hm, kp, hb⟩ := F.ex
  exact pd_call F (hr.mono hk) hg hm kp hb hx ha hdb he hpl
theorem pd_fn0 (F : Fn X.prog X.w (kt X E) X.mg X.base x k ps sd) (hr : Room j X.A) (hx : Passes (L2N.CX X.prog X.w) X E.1) (hk : k ≤ j := by decide) (hg : Gl X x := by rfl) (hdb : (x == ("__debug__" : Str)) = false := by decide) : PD X E (.Call (.Name x p) [] [] pos) (dCall sd dNil) := by
  obtain ⟨f, fd, F, hm, kp, hb⟩ := F.ex
  exact pd_call0 F (hr.mono hk) hg hm kp hb hx hdb
theorem pd_mt {pl : Sem Bool} (cl : Cls X.K Cl) (F : Mt X.prog X.w (kt X E) X.mg X.base Cl m k ps sd) (hr : Room j X.A) (hx : Passes (L2N.CX X.prog X.w) X E.1) (he : PD X E o da) (ha : PDA X E (e :: es) dl) (hk : k ≤ j := by decide)
    (hst : starEach (e :: es) X.env = (false, eval e X.env) :: starEach es X.env := by rfl) (hpl : (backTo pos (starEach es X.env)).any (·.1) = false := by rfl)
    (ht : eval (.Call (.Attribute o m apos) (e :: es) [] pos) X.env = (do
      let ov ← eval o X.env
      standAt apos.atName
      let (f, first) ← holding [ov] (getMethod ov m pl)
      callWith pos f first (backTo pos (starEach (e :: es) X.env)) (backToKw pos (keywordEach [] X.env))) := by rfl) :
    PD X E (.Call (.Attribute o m apos) (e :: es) [] pos) (dMeth Cl m sd da dl) := by
  obtain ⟨f, fd, F, hm, hb⟩ := F.ex
  exact pd_meth he cl hm F (hr.mono hk) hb hx ha hst hpl ht
theorem pd_mt0 {pl : Sem Bool} (cl : Cls X.K Cl) (F : Mt X.prog X.w (kt X E) X.mg X.base Cl m k ps sd) (hr : Room j X.A) (hx : Passes (L2N.CX X.prog X.w) X E.1) (he : PD X E o da) (hk : k ≤ j := by decide)
    (ht : eval (.Call (.Attribute o m apos) [] [] pos) X.env = (do
      let ov ← eval o X.env
      standAt apos.atName
      let (f, first) ← holding [ov] (getMethod ov m pl)
      callWith pos f first (backTo pos (starEach [] X.env)) (backToKw pos (keywordEach [] X.env))) := by rfl) :
    PD X E (.Call (.Attribute o m apos) [] [] pos) (dMeth Cl m sd da dNil) := by
  obtain ⟨f, fd, F, hm, hb⟩ := F.ex
  exact pd_meth0 he cl hm F (hr.mono hk) hb hx ht
theorem pd_mk (M : Mr X.prog X.w (kt X E) X.mg X.base x Cl k ps sd) (hr : Room j X.A) (hx : Passes (L2N.CX X.prog X.w) X E.1) (ha : PDA X E (e :: es) dl) (hk : k + 1 ≤ j := by decide) (hg : Gl X x := by rfl) (hdb : (x == ("__debug__" : Str)) = false := by decide)
    (he : starEach (e :: es) X.env = (false, eval e X.env) :: starEach es X.env := by rfl) (hpl : (backTo pos (starEach es X.env)).any (·.1) = false := by rfl) : PD X E (.Call (.Name x p) (e :: es) [] pos) (dMake Cl sd dl) := by
  obtain ⟨f, fd, F, M, hm, hb⟩ := M.ex
  exact pd_make M F (hr.mono hk) hm hb hx ha hg hdb he hpl
theorem pd_mk0 (M : Mr X.prog X.w (kt X E) X.mg X.base x Cl k ps sd) (hr : Room j X.A) (hx : Passes (L2N.CX X.prog X.w) X E.1) (hk : k + 1 ≤ j := by decide) (hg : Gl X x := by rfl) (hdb : (x == ("__debug__" : Str)) = false := by decide) : PD X E (.Call (.Name x p) [] [] pos) (dMake Cl sd dNil) := by
  obtain ⟨f, fd, F, M, hm, hb⟩ := M.ex
  exact pd_make0 M F (hr.mono hk) hm hb hx hg hdb
/-- a built-in class's name as a value -/
theorem pd_ty {n : String} (hm : X.mg x = none) (hv : bootBuiltins x = some (.type n)) (hg : Gl X x := by rfl) (hn : x ≠ "__name__" := by decide) (hd : (x == ("__debug__" : Str)) = false := by decide) : PD X E (.Name x pos) (dC (.ty n)) :=
  pd_c (pe_bltn (v := .ty n) hg hm hv rfl hn hd) fun _ => .ty _
def dNeg : D1 := fun x G R => match x with
  | .int i => R (.int (-i)) G
  | _ => False
theorem pd_neg (ha : PD X E a da) : PD X E (.UnaryOp .USub a pos) (dUn dNeg da) := pd_un un_neg (fun T x H d G R Q hr rx q cr => by
  unfold dNeg at q
  split at q
  · cases rx
    exact ⟨_, rfl, cr _ _ _ _ (Up.refl H) hr (.int _) q⟩
  · exact False.elim q) ha
end
/-! a comprehension's block -/
def gNames : List Nat → TGs
  | [] => gNil
  | i :: is => gCons (gName i) (gNames is)
def gsNames : List Nat → DGs
  | [] => gsNil
  | i :: is => gsCons (gN i) (gsNames is)
theorem cts_names {vs : List Nat} : ∀ {is : List Nat}, (∀ i ∈ is, i ∈ vs) → CTs vs (gNames is)
  | [], _ => fun v σ H Q h => ⟨h.1, rfl, h.2⟩
  | i :: is, hm => fun v σ H Q h => by
    obtain ⟨v1, r, e1, h1⟩ := h
    refine ⟨v1, r, e1, ?_⟩
    have h1 : gNames is r (σ.set i (some v1)) H Q := h1
    show gNames is r (σ.set i (some v1)) H _
    have h3 := cts_names (fun j hj => hm j (List.mem_cons_of_mem _ hj)) _ _ _ _ h1
    rw [wipe_set (hm i List.mem_cons_self)] at h3
    exact h3
theorem up_gsNames {K : KT} : ∀ {is : List Nat} {v : List V} {σ : L2.St} {H : Hp} {Q : L2.St → Hp → Prop}, upGs K noE (gsNames is) v σ H Q → gNames is v σ H Q
  | [], v, σ, H, Q, ⟨d, δ, G, R, EX, dv, sr, hr, h, cr, cx⟩ => by
    obtain ⟨rfl, h⟩ := h
    cases dv
    exact ⟨rfl, cr _ _ _ _ (Up.refl H) sr hr h⟩
  | i :: is, v, σ, H, Q, ⟨d, δ, G, R, EX, dv, sr, hr, h, cr, cx⟩ => by
    cases dv with
    | nil => exact False.elim h
    | cons r rr => exact ⟨_, _, rfl, up_gsNames ⟨_, _, G, R, EX, rr, sr.set r, hr, h, cr, cx⟩⟩
section
variable {X : Cx} {E : EK} {scope : Scope} {vs : List Nat} {x : Str} {p : Pos} {elt : Expr} {ifs es : List Expr} {tt : DT} {te : DE} {i k n : Nat} {is : List Nat}
theorem blk_name (hm : i ∈ vs) (hpg : ∀ (s : Shared) (H : Hp) (C : Addr) (cl : List (Str × Addr)) (fp : List Addr), PG (X.blk s H scope (compEnvC scope cl C X.env) fp) (.Name x p) (gName i))
    (ht : ∀ (s : Shared) (H : Hp) (C : Addr) (cl : List (Str × Addr)) (fp : List Addr), PDTs (X.blk s H scope (compEnvC scope cl C X.env) fp) E ifs tt)
    (he : ∀ (s : Shared) (H : Hp) (C : Addr) (cl : List (Str × Addr)) (fp : List Addr), PD (X.blk s H scope (compEnvC scope cl C X.env) fp) (noE, E.2) elt te) : BlkP X E scope vs (.Name x p) elt ifs (gN i) tt te :=
  ⟨⟨gName i, fun v σ H Q h => ⟨wipe_set hm, h⟩, fun v σ H Q ⟨d, δ, G, R, EX, dv, sr, hr, h, cr, cx⟩ => cr _ _ _ _ (Up.refl H) (sr.set dv) hr h, hpg⟩, ht, he⟩
theorem blk_tup (hm : ∀ i ∈ is, i ∈ vs) (hpg : ∀ (s : Shared) (H : Hp) (C : Addr) (cl : List (Str × Addr)) (fp : List Addr), PG (X.blk s H scope (compEnvC scope cl C X.env) fp) (.Tuple es k p) (gTup X.K n (gNames is)))
    (ht : ∀ (s : Shared) (H : Hp) (C : Addr) (cl : List (Str × Addr)) (fp : List Addr), PDTs (X.blk s H scope (compEnvC scope cl C X.env) fp) E ifs tt)
    (he : ∀ (s : Shared) (H : Hp) (C : Addr) (cl : List (Str × Addr)) (fp : List Addr), PD (X.blk s H scope (compEnvC scope cl C X.env) fp) (noE, E.2) elt te) : BlkP X E scope vs (.Tuple es k p) elt ifs (gT n (gsNames is)) tt te := by
  refine ⟨⟨gTup X.K n (gNames is), fun v σ H Q ⟨a, xs, e1, e2, e3, h⟩ => ⟨a, xs, e1, e2, e3, cts_names hm _ _ _ _ h⟩, fun v σ H Q ⟨d, δ, G, R, EX, dv, sr, hr, h, cr, cx⟩ => ?_, hpg⟩, ht, he⟩
  unfold gT at h
  split at h
  · rename_i l e
    obtain ⟨a, xs, rfl, hq, r⟩ := dv.sqT e
    exact ⟨_, _, rfl, hq, by rw [r.length]; exact h.1, up_gsNames ⟨_, δ, G, R, EX, r, sr, hr, h.2, cr, cx⟩⟩
  · exact False.elim h
end
end Cc
/-! ### sorting: of data, by a key that is a lambda -/
namespace Cc
open PySem PySem.Spec PyProof.Rows L2
open PySem.W (EachIs AllAlike Sortable dataLe KeyPure kla_obj kla_fn envX)
/-- a lambda of one parameter that captures nothing -/
structure Lam1 (scope : Scope) (x : Str) : Prop where
  kind : scope.kind = .function
  co : scope.isCoroutine = false
  gen : scope.isGenerator = false
  cell : ∀ y ∈ scope.names, y.2 ≠ .cell
  free : ∀ y ∈ scope.names, y.2 ≠ .free
  loc : scope.names.lookup x = some .local
def lam1B (scope : Scope) (x : Str) : Bool := decide (scope.kind = .function) && !scope.isCoroutine && !scope.isGenerator && (scope.names.all fun y => !decide (y.2 = .cell) && !decide (y.2 = .free)) && decide (scope.names.lookup x = some .local)
theorem lam1_by {scope : Scope} {x : Str} (h : lam1B scope x = true) : Lam1 scope x := by
  unfold lam1B at h
  simp only [Bool.and_eq_true, Bool.not_eq_true', decide_eq_true_eq, decide_eq_false_iff_not, List.all_eq_true] at h
  obtain ⟨⟨⟨⟨h1, h2⟩, h3⟩, h4⟩, h5⟩ := h
  exact ⟨h1, h2, h3, fun y hy => (h4 y hy).1, fun y hy => (h4 y hy).2, h5⟩
section
variable {prog : Program} {w : World} {A : Around} {s : Shared} {x q : Str} {params : Arguments} {body : Expr} {scope : Scope} {f c' : Addr} {pm ctv v : Value} {k : PyData}
theorem lam_key (L : Lam1 scope x) (hf : s.heap.get? f = some (kla_obj "<lambda>" q params body scope [] pm c' ctv)) (hc : s.heap.CodeRec (.ref c') q) (hroom : A.depth < recursionLimit) (hlim : s.heap.NoLimit)
    (hbind : bindArgs (kla_fn "<lambda>" q params body scope [] pm (.ref c') ctv) ⟨[v], []⟩ = pure [(x, v)])
    (hb : ∀ (h₁ : Heap) (tk : Nat), (∀ b o, s.heap.get? b = some o → h₁.get? b = some o) → h₁.Ns s.heap.objs.size (fun y => ([(x, v)] : List (Str × Value)).reverse.lookup y) →
      wpAny (model prog w) (A.deeper (envX q scope s.heap.objs.size f (.ref c') [])) (eval body (envX q scope s.heap.objs.size f (.ref c') [])) (KeyPure k { s with heap := h₁, toks := tk }) (fun _ _ => False) { s with heap := h₁, toks := tk }) :
    wpAny (model prog w) A (call (.ref f) [v]) (KeyPure k s) (fun _ _ => False) s := by
  refine wpAny_call (PySem.W.kla_callFunE hroom hf rfl L.co L.gen rfl hc ?_)
  rw [hbind]
  refine wpAny_pure (wpAny_newFunctionEnv L.cell (fun y hy => ?_) (fun h₁ hns hsb => ⟨hlim.fresh _ hsb, ?_⟩) L.kind)
  · have e : y = (x, v) := by simpa using hy
    subst e
    exact L.loc
  · have kp : ∀ b o, s.heap.get? b = some o → h₁.get? b = some o := fun b o e => hsb.extBut b o (Nat.ne_of_lt (Heap.lt_size e)) (Heap.get?_push_of_some _ e)
    show codeAny _ _ (.expr body (envX q scope s.heap.objs.size f (.ref c') [])) _ _
    refine PySem.W.kla_codeExpr (wpAny_mono (hb h₁ _ kp hns) (fun u s' hq => ?_) fun _ _ z => z.elim)
    obtain ⟨h', tk, e, k1, r⟩ := hq
    subst e
    exact ⟨h', tk, rfl, fun b o e => k1 b o (kp b o e), r⟩
variable {E : Value → Shared → Prop} {Q : Value → Shared → Prop} {L f' : Addr} {cd : Value}
theorem lam_name {p : Pos} (hk : scope.kind = .function) (hl : scope.names.lookup x = some .local) (hn : s.heap.Ns L (fun y => ([(x, v)] : List (Str × Value)).reverse.lookup y)) (hd : (x == ("__debug__" : Str)) = false) (h : Q v s) :
    wpAny (model prog w) A (eval (.Name x p) (envX q scope L f' cd [])) Q E s :=
  wpAny_Name (wpAny_loadName_local hk hl hn (by simp [List.lookup]) h) hd
/-- row[i] -/
theorem lam_ix {p1 p2 p3 : Pos} {i : Nat} {t : Addr} {its : Array Value} {n : Int} {tk : Tok} {jj} (hk : scope.kind = .function) (hl : scope.names.lookup x = some .local) (hn : s.heap.Ns L (fun y => ([(x, .ref t)] : List (Str × Value)).reverse.lookup y)) (hd : (x == ("__debug__" : Str)) = false)
    (ht : IsTup s.heap t its) (hi : its.toList[i]? = some (.int n tk)) (hz : its.size ≤ sizeLine) :
    wpAny (model prog w) A (eval (.Subscript (.Name x p1) (.Constant (.int (i : Nat)) jj p2) p3) (envX q scope L f' cd [])) (KeyPure (.int n) s) (fun _ _ => False) s := by
  refine Subscript_ (lam_name hk hl hn hd (wpAny_Constant_int ?_))
  have hlt : i < its.size := by
    have := (List.getElem?_eq_some_iff.mp hi).1
    simpa using this
  have hn' := line63
  refine subscriptTail_builtinR (x := .int n tk) ht.typeIs slot_tuple_getitem.lookup
    (getItem_tuple (j := i) (Q := fun r s' => r = .int n tk ∧ KeyPure (.int n) s r s') ht (by omega) (by omega) ?_ (by simpa using hi) ⟨rfl, s.heap, s.toks + 1, rfl, fun _ _ e => e, .int _ _⟩) rfl
  unfold seqIndex?
  simp
  omega
/-- row[:i], ints -/
theorem readsAll_ints {h : Heap} : ∀ {vs : List Value} {ns : List Int}, IntsAre vs ns → ReadsAll h vs (ns.map PyData.int) []
  | _, _, .nil => .nil
  | _, _, .cons n t r => .cons (.int n t) (readsAll_ints r)
theorem lam_cut {p1 p2 p3 p4 : Pos} {i : Nat} {t : Addr} {its : Array Value} {ns : List Int} {jj} (hk : scope.kind = .function) (hl : scope.names.lookup x = some .local) (hn : s.heap.Ns L (fun y => ([(x, .ref t)] : List (Str × Value)).reverse.lookup y)) (hd : (x == ("__debug__" : Str)) = false)
    (ht : IsTup s.heap t its) (hi : IntsAre (its.toList.take i) ns) (hlt : i < its.size) (hz : its.size ≤ sizeLine) :
    wpAny (model prog w) A (eval (.Subscript (.Name x p1) (.Slice none (some (.Constant (.int (i : Nat)) jj p2)) none p4) p3) (envX q scope L f' cd [])) (KeyPure (.tuple (ns.map PyData.int)) s) (fun _ _ => False) s := by
  refine Subscript_ (lam_name hk hl hn hd ?_)
  refine wpAny_Slice ?_
  rw [evalPart_none, evalPart_some]
  refine wpAny_pure (wpAny_Constant_int (wpAny_pure ?_))
  have ht' : IsTup (s.heap.push { cls := .type "slice", data := .fields #[.none, .int (i : Nat) s.toks, .none] }) t its := by
    obtain ⟨o, ho, r⟩ := ht
    exact ⟨o, Heap.get?_push_of_some _ ho, r⟩
  have e1 : HT.sIx its.size 0 none = 0 := HT.sIx_none _ _
  have e2 : HT.sIx its.size its.size (some ((i : Nat) : Int)) = i := by rw [HT.sIx_nat]; omega
  refine tail_any (ops := [.ref s.heap.objs.size, .ref t]) ht'.typeIs PyProof.Rows.slot_tuple_getitem.lookup (HT.getItem_tuple_cut ht' (Heap.IsSliceOf.new ..) .none (.int _ _) (by rw [e1, e2]; omega) ?_ hz) (by with_unfolding_all rfl)
  rw [e1, e2, List.drop_zero, Nat.sub_zero]
  refine ⟨_, _, rfl, fun b o e => Heap.get?_push_of_some _ (Heap.get?_push_of_some _ e), .tuple (Heap.get?_push_size _ rfl) rfl rfl ?_⟩
  exact readsAll_ints hi
end
/-! the rule -/
/-- a lambda's body that gives a tuple's key -/
def KeyBody {κ : Type} (x : Str) (body : Expr) (enc : κ → PyData) (kf : D → Option κ) : Prop :=
  ∀ {prog : Program} {w : World} {A : Around} {s : Shared} {q : Str} {scope : Scope} {L f' : Addr} {cd : Value} {K : KT} {H : Hp} {t : Addr} {its : Array Value} {xs : List V} {d : D} {l : List D} {k : κ}, Lam1 scope x → IsTup s.heap t its → Vals xs its.toList → d.tl = some l → DvL K H xs l → kf d = some k →
    its.size ≤ sizeLine → s.heap.Ns L (fun y => ([(x, .ref t)] : List (Str × Value)).reverse.lookup y) → wpAny (model prog w) A (eval body (envX q scope L f' cd [])) (KeyPure (enc k) s) (fun _ _ => False) s
def kI (i : Nat) : D → Option Int := fun d => match d.tl with
  | some l => (match l[i]? with
    | some (.int n) => some n
    | _ => none)
  | none => none
theorem keyIx {x : Str} {i : Nat} {p1 p2 p3 : Pos} {jj} (hd : (x == ("__debug__" : Str)) = false := by decide) : KeyBody x (.Subscript (.Name x p1) (.Constant (.int (i : Nat)) jj p2) p3) PyData.int (kI i) := by
  intro prog w A s q scope L f' cd K H t its xs d l k Lm ht rv e r hk hz hn
  unfold kI at hk
  rw [e] at hk
  dsimp only at hk
  split at hk
  · rename_i n en
    cases hk
    obtain ⟨u, e1, e2⟩ := r.get en
    cases e2
    obtain ⟨z, e3, e4⟩ := rv.get e1
    obtain ⟨tk, rfl⟩ := e4
    exact lam_ix Lm.kind Lm.loc hn hd ht e3 hz
  · cases hk
/-- two ints -/
def kII : D → Option (Int × Int) := fun d => match d.tl with
  | some (.int a :: .int b :: _ :: _) => some (a, b)
  | _ => none
def encII (p : Int × Int) : PyData := .tuple [.int p.1, .int p.2]
theorem keyII {x : Str} {p1 p2 p3 p4 : Pos} {jj} (hd : (x == ("__debug__" : Str)) = false := by decide) : KeyBody x (.Subscript (.Name x p1) (.Slice none (some (.Constant (.int 2) jj p2)) none p4) p3) encII kII := by
  intro prog w A s q scope L f' cd K H t its xs d l k Lm ht rv e r hk hz hn
  unfold kII at hk
  rw [e] at hk
  split at hk
  · rename_i a b c l' el
    cases el
    cases hk
    cases r with
    | cons r1 r =>
      cases r with
      | cons r2 r =>
        cases r with
        | cons r3 r =>
          cases r1
          cases r2
          obtain ⟨its⟩ := its
          cases rv with
          | cons h1 rv =>
            cases rv with
            | cons h2 rv =>
              cases rv with
              | cons h3 rv =>
                obtain ⟨t1, rfl⟩ := h1
                obtain ⟨t2, rfl⟩ := h2
                exact lam_cut (i := 2) (ns := [a, b]) Lm.kind Lm.loc hn hd ht (.cons _ _ (.cons _ _ .nil)) (by simp) hz
  · cases hk
/-- a list by its items' keys, stable -/
def sortG {κ : Type} (enc : κ → PyData) (l : List D) (ks : List κ) : List D := ((l.zip ks).mergeSort (dataLe false fun b => enc b.2)).map Prod.fst
def dSortG {κ : Type} (enc : κ → PyData) (kf : D → Option κ) (da : DE) : DE := fun δ G R EX => da δ G (fun x G1 => match x with
  | .ref a => ∃ (l : List D) (ks : List κ), G1 a = some (.lst l) ∧ l.map kf = ks.map some ∧ l.length ≤ sizeLine ∧ ∀ p, G1 p = none → R (.ref p) (updD G1 p (.lst (sortG enc l ks)))
  | _ => False) EX
theorem each_dv {K : KT} {H : Hp} {κ : Type} : ∀ {out : List Value} {bs : List (D × κ)}, EachIs (fun (v : Value) (b : D × κ) => ∃ y, RelV y v ∧ Dv K H y b.1) out bs → ∃ ys, Vals ys out ∧ DvL K H ys (bs.map Prod.fst)
  | _, _, .nil => ⟨[], .nil, .nil⟩
  | _, _, .cons ⟨y, r1, r2⟩ t => by
    obtain ⟨ys, h1, h2⟩ := each_dv t
    exact ⟨y :: ys, .cons r1 h1, .cons r2 h2⟩
theorem each_of {K : KT} {H : Hp} {κ : Type} : ∀ {xs : List V} {vs : List Value} {l : List D} {ks : List κ}, Vals xs vs → DvL K H xs l → l.length = ks.length → EachIs (fun (v : Value) (b : D × κ) => ∃ y, RelV y v ∧ Dv K H y b.1) vs (l.zip ks)
  | [], _, _, _, r, d, h => by
    cases r
    cases d
    exact .nil
  | x :: xs, _, _, ks, r, d, h => by
    cases r with
    | cons r rv =>
      cases d with
      | cons d dv =>
        cases ks with
        | nil => cases h
        | cons k ks => exact .cons ⟨_, r, d⟩ (each_of rv dv (Nat.succ.inj h))
theorem zip_kf {κ : Type} {kf : D → Option κ} : ∀ {l : List D} {ks : List κ}, l.map kf = ks.map some → ∀ b ∈ l.zip ks, kf b.1 = some b.2
  | [], [], _, b, hb => by cases hb
  | x :: l, k :: ks, h, b, hb => by
    rw [List.map_cons, List.map_cons] at h
    injection h with h1 h2
    rcases List.mem_cons.mp (show b ∈ (x, k) :: l.zip ks from hb) with rfl | hb
    · exact h1
    · exact zip_kf h2 b hb
theorem extN_up {H H1 : Hp} (e : LamX.ExtN H H1) : Up H H1 := ⟨fun a xs h => e a _ h (fun _ z => by cases z), fun a o u h => e a _ h (fun _ z => by cases z), fun a q h => e a _ h (fun ps z => LamX.codeO_ne ps z)⟩
theorem extN_h {K : KT} {G : DH} {H H1 : Hp} (hr : HRel K G H) (e : LamX.ExtN H H1) (t : LamX.Tabs K.2 H1) : HRel K G H1 := ⟨fun a c q => by
  have h := hr a c q
  have u := extN_up e
  cases c with
  | lst l => obtain ⟨xs, q, r⟩ := h; exact ⟨xs, e _ _ q (fun _ z => by cases z), r.up u⟩
  | dK l => obtain ⟨xs, q, r⟩ := h; exact ⟨xs, e _ _ q (fun _ z => by cases z), r.up u⟩
  | dT l => obtain ⟨xs, q, r⟩ := h; exact ⟨xs, e _ _ q (fun _ z => by cases z), r.up u⟩
  | ins cl fs => obtain ⟨dx, xs, q, r⟩ := h; exact ⟨dx, xs, e _ _ q (fun _ z => by cases z), r.up u⟩
  | xd l => obtain ⟨xs, q, r⟩ := h; exact ⟨xs, e _ _ q (fun _ z => by cases z), r.up u⟩, t⟩
section
variable {X : Cx} {E : EK} {e : Expr} {de : DE} {p pos lp kp : Pos} {params : Arguments} {body : Expr} {scope : Scope} {x : Str} {κ : Type} {enc : κ → PyData} {kf : D → Option κ} {c P : Addr} {j : Nat}
theorem pd_sortG (KB : KeyBody x body enc kf) (hal : ∀ a b, PySem.W.alike (enc a) (enc b) = true) (hsk : (∀ b, ∃ y r, enc b = .tuple (y :: r)) ∨ ∀ b, enc b ≠ .none ∧ ∀ xs, enc b ≠ .tuple xs) (hdep : ∀ b, (enc b).depth ≤ 1) (hkf : ∀ d k, kf d = some k → ∃ l, d.tl = some l)
    (TB : LamX.TabB X.base X.mg c P) (hcode : X.env.code = .ref c) (hm : (P, X.env.qual ++ "<lambda>") ∈ E.2) (hu : ∀ q ∈ E.2, q.1 = P → q.2 = X.env.qual ++ "<lambda>")
    (L : Lam1 scope x) (hdef : defaultsOf params X.env = ([], [])) (hbind : ∀ pm c' ctv v, bindArgs (kla_fn "<lambda>" (X.env.qual ++ "<lambda>") params body scope [] pm (.ref c') ctv) ⟨[v], []⟩ = pure [(x, v)])
    (hr : Room (j + 2) X.A) (hf : X.mg "sorted" = none) (ha : PD X E e de) (hg : Gl X "sorted" := by rfl)
    (hs : starEach (e :: []) X.env = (false, eval e X.env) :: starEach [] X.env := by rfl)
    (he : backTo pos (starEach (e :: []) X.env) = (false, eval e X.env) :: backTo pos (starEach [] X.env) := by rfl) (hpl : (backTo pos (starEach (e :: []) X.env)).any (·.1) = false := by rfl)
    (hall : (backToKw pos (keywordEach [⟨some "key", .Lambda params body scope lp, kp⟩] X.env)).all (·.1.isSome) = true := by rfl) (hnone : (backToKw pos (keywordEach [⟨some "key", .Lambda params body scope lp, kp⟩] X.env)).any (·.1.isNone) = false := by rfl)
    (hks : (backToKw pos (keywordEach [⟨some "key", .Lambda params body scope lp, kp⟩] X.env)).filterMap (·.1) = (["key"] : List Str) := by rfl) :
    PD X E (.Call (.Name "sorted" p) [e] [⟨some "key", .Lambda params body scope lp, kp⟩] pos) (dSortG enc kf de) := by
  refine ⟨⟨fun pins s σ H Q I h => ?_⟩⟩
  obtain ⟨δ, G, R, EX, sr, hG, h, cr, cx⟩ := h
  refine wpAny_Call_Name_kw (ld_blt I hg hf (show bootBuiltins "sorted" = some (.builtin "sorted") by decide +kernel) ?_)
  refine PyProof.Rows.callWith_kw (thn ((pa_cons ha.pe pa_nil hs).run pos pins s σ H (fun vs H1 => ∃ (a : Addr) (l : List D) (ks : List κ) (G1 : DH), vs = [.ref a] ∧ Up H H1 ∧ HRel (kt X E) G1 H1 ∧ G1 a = some (.lst l) ∧ l.map kf = ks.map some ∧ l.length ≤ sizeLine ∧ ∀ p, G1 p = none → R (.ref p) (updD G1 p (.lst (sortG enc l ks)))) I
    ⟨δ, G, _, EX, sr, hG, h, fun v H1 d G1 u1 h1 r1 q1 => ?_, cx⟩) fun us s1 ⟨vs, H1, I1, r1, q1⟩ => ?_) he hpl hall hnone
  · dsimp only at q1
    split at q1
    · cases r1
      obtain ⟨l, ks, e1, e2, e3, q⟩ := q1
      exact ⟨_, l, ks, G1, rfl, u1, h1, e1, e2, e3, q⟩
    · exact False.elim q1
  · obtain ⟨a, l, ks, G1, rfl, u1, h1, e1, e2, e3, q⟩ := q1
    rw [hks]
    cases r1 with
    | cons ra rn =>
      cases rn
      cases ra
      show wpAny _ _ (evalAll ((do let v ← eval (.Lambda params body scope lp) X.env; standAt pos; pure v) :: [])) _ _ s1
      refine wpAny_evalAll_cons (wpAny_bind (LamX.lam_make2 (T := E.2) I1 TB hcode hm hu h1.t hdef (fun y hy z => absurd z (L.free y hy)) fun f c' pm ctv H2 s2 I2 ex tb hf2 hfn hfr hc2 => wpAny_bind (wpAny_standAt (wpAny_pure (wpAny_evalAll_nil ?_)))))
      have hcl : cloFrom X.env.cells scope.names [] = [] := by
        have z : ∀ names : List (Str × NameKind), (∀ y ∈ names, y.2 ≠ .free) → cloFrom X.env.cells names [] = [] := fun names => by
          induction names with
          | nil => intro _; rfl
          | cons y r ih =>
            intro hy
            obtain ⟨n, kd⟩ := y
            have h0 := hy (n, kd) List.mem_cons_self
            have ih := ih fun y hm => hy y (List.mem_cons_of_mem _ hm)
            unfold cloFrom
            cases kd <;> first | exact ih | exact absurd rfl h0
        exact z _ L.free
      rw [hcl] at hf2
      have h2 : HRel (kt X E) G1 H2 := extN_h h1 ex tb
      obtain ⟨xs, ha2, rl⟩ := h2 _ _ e1
      obtain ⟨its, rv, pl, hz⟩ := I2.list (SqL.of ha2)
      have hlk : l.length = ks.length := by
        have z := congrArg List.length e2
        rwa [List.length_map, List.length_map] at z
      have hbs : (l.zip ks).length = l.length := by rw [List.length_zip, ← hlk, Nat.min_self]
      have hcr : s2.heap.CodeRec (.ref c') (X.env.qual ++ "<lambda>") := by
        obtain ⟨⟨oc, vs, t, hoc, hdc, hvc⟩, _, _⟩ := I2.hok c' _ hc2
        exact ⟨c', oc, vs, t, rfl, hoc, hdc, hvc⟩
      have hun := hr.units
      refine PySem.W.sorted_key_data (b := false) (R := fun (v : Value) (b : D × κ) => ∃ y, RelV y v ∧ Dv (kt X E) H2 y b.1) (fun b : D × κ => enc b.2) pl.isList (each_of rv rl hlk) ?hal ?hsk (by rw [hbs]; exact e3) (fun b _ => ?_) (PyProof.Rows.ksk_s1 _ _) (fun _ => PyProof.Rows.ksk_l1 _ _) (fun _ => PyProof.Rows.ksk_t1 _ _) (fun v b ⟨y, ry, dy⟩ hb h' tk kp => ?_) fun out cc h' tk kp fr hD hlen eo => ?_
      case hal =>
        exact AllAlike.of fun b b' => hal _ _
      case hsk =>
        rcases hsk with z | z
        · exact Sortable.tuples fun b => z _
        · exact Sortable.others fun b => z _
      · have := hdep b.2
        omega
      · have kk := zip_kf e2 b hb
        obtain ⟨l', el⟩ := hkf _ _ kk
        obtain ⟨t, xs', ey, hq, r'⟩ := dy.sqT el
        subst ey
        obtain rfl : v = .ref t := ry
        obtain ⟨its', rv', pt, hz'⟩ := I2.tuple hq
        have pt' : IsTup h' t its'.toArray := by
          obtain ⟨o, ho, rest⟩ := pt
          exact ⟨o, kp _ _ ho, rest⟩
        refine lam_key (s := { s2 with heap := h', toks := tk }) L (kp _ _ hf2) (hcr.keeps kp) hr.in1.in1.depth (I2.nolimit.keeps kp) (hbind pm c' ctv _) fun h₁ tk1 k1 hn => ?_
        have pt2 : IsTup h₁ t its'.toArray := by
          obtain ⟨o, ho, rest⟩ := pt'
          exact ⟨o, k1 _ _ ho, rest⟩
        exact KB (s := { s2 with heap := h₁, toks := tk1 }) L pt2 (by simpa using rv') el r' kk (by rw [List.size_toArray, ← rv'.length]; exact hz') hn
      · obtain ⟨ys, v1, v2⟩ := each_dv eo
        have fp : H2 (s2.heap.objs.size + 1) = none := I2.hok.fresh (Nat.le_succ _)
        have I3 : Inv X pins σ (upd H2 (s2.heap.objs.size + 1) (.lst ys)) { s2 with heap := h', toks := tk } := I2.laid kp (Nat.le_succ _) ⟨by rw [v2.length, List.length_map, List.length_mergeSort, hbs]; exact e3, _, _, v1, hD⟩
        have un := Up.new (o := .lst ys) fp
        exact ⟨.ref (s2.heap.objs.size + 1), _, I3, rfl, cr _ _ _ _ (u1.trans ((extN_up ex).trans un)) (h2.new (c := .lst _) fp ⟨ys, upd_same, v2.up un⟩) (.ref _) (q _ (h2.none fp))⟩
end
end Cc
/-! ### sorted of data, membership at any depth, pairs of names, while -/
namespace Cc
open PySem PySem.Spec PyProof.Rows L2
open PySem.W (EachIs AllAlike Sortable dataLe)
def sortV (bs : List (V × PyData)) : List V := (bs.mergeSort (dataLe false Prod.snd)).map Prod.fst
def rSortD (K : PySem.W.Frag) : List V → Hp → VK → Prop := fun vs H Q => ∃ (a : Addr) (bs : List (V × PyData)), vs = [V.ref a] ∧ SqL K H a (bs.map Prod.fst) ∧ (∀ b ∈ bs, Dp K H b.1 b.2) ∧ AllAlike (bs.map Prod.snd) ∧ Sortable (bs.map Prod.snd) ∧ (∀ b ∈ bs, b.2.depth ≤ 40) ∧
  bs.length ≤ sizeLine ∧ ∀ p, H p = none → Q (.ref p) (upd H p (.lst (sortV bs)))
theorem each_of_vals {P : Value → (V × PyData) → Prop} : ∀ {bs : List (V × PyData)} {vs : List Value}, Vals (bs.map Prod.fst) vs → (∀ b ∈ bs, ∀ v, RelV b.1 v → P v b) → EachIs P vs bs
  | [], _, r, _ => by cases r; exact .nil
  | b :: bs, _, r, h => by
    cases r with
    | cons r rs => exact .cons (h b List.mem_cons_self _ r) (each_of_vals rs fun c hc => h c (List.mem_cons_of_mem _ hc))
theorem vals_of_each : ∀ {bs : List (V × PyData)} {vs : List Value}, EachIs (fun v (b : V × PyData) => RelV b.1 v) vs bs → Vals (bs.map Prod.fst) vs
  | _, _, .nil => .nil
  | _, _, .cons r t => .cons r (vals_of_each t)
section
variable {X : Cx}
theorem cr_sortD (hu : X.A.units + 42 < cLine) : CallR X (.builtin "sorted") (rSortD X.K) := by
  intro pins s σ H vs us Q I r h
  obtain ⟨a, bs, rfl, hs, hd, hal, hk, hdep, hz, q⟩ := h
  obtain ⟨its, rv, hl, _⟩ := I.list hs
  rw [Vals.ref1 r]
  refine PySem.W.sorted_data (R := fun v (b : V × PyData) => RelV b.1 v) (enc := Prod.snd) hl.isList (each_of_vals rv fun b _ v r => r) (each_of_vals rv fun b hb v r => Dp.reads I b.2 b.1 v (hd b hb) r) hal hk hz (fun b hb => by have := hdep b hb; omega) fun out ho eo => ?_
  obtain ⟨ep, he'⟩ := PyProof.Rows.sortedAll_at s.heap its out.toArray
  have hlen : (sortV bs).length ≤ sizeLine := by unfold sortV; rw [List.length_map, List.length_mergeSort]; exact hz
  refine ⟨.ref _, upd H (s.heap.objs.size + 1) (.lst (sortV bs)), I.laid (t' := s.toks) (fun _ _ => PyProof.Rows.sortedAll_old) (Nat.le_succ _) ⟨hlen, out, ep, vals_of_each eo, he'⟩, rfl, q _ (I.hok.fresh (Nat.le_succ _))⟩
/-- a list by its items' order -/
def sortD (l : List D) (ts : List PyData) : List D := ((l.zip ts).mergeSort (dataLe false Prod.snd)).map Prod.fst
def lstOf (G : DH) (x : D) : Option (List D) := match x with
  | .ref a => (match G a with
    | some (.lst l) => some l
    | _ => none)
  | .rol l => some l
  | _ => none
theorem lstOf_sq {K : KT} {G : DH} {H : Hp} {v : V} {y : D} {l : List D} (hr : HRel K G H) (r : Dv K H v y) (e : lstOf G y = some l) : ∃ p xs, v = .ref p ∧ SqL K.1 H p xs ∧ DvL K H xs l := by
  unfold lstOf at e
  split at e
  · cases r
    split at e
    · rename_i a l' ea
      cases e
      obtain ⟨xs, e1, r1⟩ := hr _ _ ea
      exact ⟨_, _, rfl, SqL.of e1, r1⟩
    · cases e
  · cases e
    cases r with
    | rol hq r => exact ⟨_, _, rfl, hq.sqL, r⟩
  · cases e
def dSorted : DC := fun xs G R => match xs with
  | [x] => ∃ l ts, lstOf G x = some l ∧ RddL G l ts ∧ AllAlike ts ∧ Sortable ts ∧ (∀ t ∈ ts, t.depth ≤ 40) ∧ l.length ≤ sizeLine ∧ ∀ p, G p = none → R (.ref p) (updD G p (.lst (sortD l ts)))
  | _ => False
theorem RddL.len {G : DH} : ∀ {l : List D} {ts : List PyData}, RddL G l ts → l.length = ts.length
  | _, _, .nil => rfl
  | _, _, .cons _ r => congrArg (· + 1) (RddL.len r)
theorem dpAll_at {K : PySem.W.Frag} {H : Hp} : ∀ {vs : List V} {ts : List PyData}, DpAll K H vs ts → ∀ b ∈ vs.zip ts, Dp K H b.1 b.2
  | _, _, .nil, b, hb => by cases hb
  | _, _, .cons h r, b, hb => by
    rcases List.mem_cons.mp (show b ∈ (_, _) :: _ from hb) with rfl | hb
    · exact h
    · exact dpAll_at r b hb
theorem zip_pair {α β γ : Type} {P : α → β → Prop} : ∀ {vs : List α} {ds : List β} {ts : List γ}, vs.length = ds.length → True
  | _, _, _, _ => trivial
theorem dvL_zip {K : KT} {H : Hp} : ∀ {vs : List V} {ds : List D} {ts : List PyData}, DvL K H vs ds → vs.length = ts.length → EachIs (fun (a : V × PyData) (b : D × PyData) => Dv K H a.1 b.1 ∧ a.2 = b.2) (vs.zip ts) (ds.zip ts)
  | _, _, [], .nil, _ => .nil
  | _, _, t :: ts, .cons h r, e => .cons ⟨h, rfl⟩ (dvL_zip r (Nat.succ.inj e))
theorem dvL_of_each {K : KT} {H : Hp} : ∀ {as : List (V × PyData)} {bs : List (D × PyData)}, EachIs (fun (a : V × PyData) (b : D × PyData) => Dv K H a.1 b.1 ∧ a.2 = b.2) as bs → DvL K H (as.map Prod.fst) (bs.map Prod.fst)
  | _, _, .nil => .nil
  | _, _, .cons h r => .cons h.1 (dvL_of_each r)
/-- pairs sorted by an equal rank stay paired -/
theorem each_sort {α β : Type} {P : α → β → Prop} {le : α → α → Bool} {le' : β → β → Bool} (hle : ∀ a b c d, P a b → P c d → le a c = le' b d) :
    ∀ {as : List α} {bs : List β}, EachIs P as bs → EachIs P (as.mergeSort le) (bs.mergeSort le') := by
  intro as bs h
  have key : ∀ {as : List α} {bs : List β}, EachIs P as bs → ∃ zs : List (α × β), as = zs.map Prod.fst ∧ bs = zs.map Prod.snd ∧ ∀ z ∈ zs, P z.1 z.2 := by
    intro as bs h
    induction h with
    | nil => exact ⟨[], rfl, rfl, fun z hz => by cases hz⟩
    | cons h _ ih =>
      obtain ⟨zs, rfl, rfl, hz⟩ := ih
      refine ⟨(_, _) :: zs, rfl, rfl, fun z hm => ?_⟩
      rcases List.mem_cons.mp hm with rfl | hm
      · exact h
      · exact hz z hm
  obtain ⟨zs, rfl, rfl, hz⟩ := key h
  have back : ∀ {zs : List (α × β)}, (∀ z ∈ zs, P z.1 z.2) → EachIs P (zs.map Prod.fst) (zs.map Prod.snd) := by
    intro zs
    induction zs with
    | nil => intro _; exact .nil
    | cons z zs ih => intro h; exact .cons (h z List.mem_cons_self) (ih fun y hy => h y (List.mem_cons_of_mem _ hy))
  rw [← List.map_mergeSort (r := fun z y : α × β => le z.1 y.1) (fun a _ b _ => rfl), ← List.map_mergeSort (r := fun z y : α × β => le z.1 y.1) (s := le') (f := Prod.snd) (l := zs) fun a ha b hb => hle _ _ _ _ (hz a ha) (hz b hb)]
  exact back fun z hm => hz z ((List.mergeSort_perm _ _).mem_iff.mp hm)
theorem cd_sorted (hu : X.A.units + 64 < cLine) : CD X (.builtin "sorted") dSorted := ⟨_, cr_sortD (by omega), fun T x H d G R Q hr r q cr => by
  unfold dSorted at q
  split at q
  · cases r with
    | cons r1 r2 =>
      cases r2
      obtain ⟨l, ts, e, rd, hal, hk, hdep, hz, q⟩ := q
      obtain ⟨p, xs, rfl, hq, rl⟩ := lstOf_sq hr r1 e
      have hl : xs.length = ts.length := rl.length.trans rd.len
      have e1 : (xs.zip ts).map Prod.fst = xs := List.map_fst_zip (by omega)
      have e2 : (xs.zip ts).map Prod.snd = ts := List.map_snd_zip (by omega)
      refine ⟨p, xs.zip ts, rfl, by rw [e1]; exact hq, dpAll_at (RddL.dp hr rd rl), by rw [e2]; exact hal, by rw [e2]; exact hk, fun b hb => hdep _ (by rw [← e2]; exact List.mem_map.mpr ⟨b, hb, rfl⟩), by rw [List.length_zip, rl.length]; omega, fun n hn => ?_⟩
      have un := Up.new (o := .lst (sortV (xs.zip ts))) hn
      refine cr _ _ _ _ un (hr.new (c := .lst (sortD l ts)) hn ⟨sortV (xs.zip ts), upd_same, ?_⟩) (.ref n) (q n (hr.none hn))
      have z := each_sort (le := dataLe false Prod.snd) (le' := dataLe false (Prod.snd : D × PyData → PyData)) (fun a b c d h1 h2 => by
        show PySem.W.dataLe false (fun t : PyData => t) a.2 c.2 = PySem.W.dataLe false (fun t : PyData => t) b.2 d.2
        rw [h1.2, h2.2]) (dvL_zip rl hl)
      exact (dvL_of_each z).up un
  · exact False.elim q⟩
/-! membership at any depth, in a tuple -/
def rInT (neg : Bool) (K : PySem.W.Frag) : R2 := fun x y H Q => ∃ d ds, Dp K H x d ∧ Dp K H y (.tuple ds) ∧ SeqAt.shaped d = true ∧ SeqAt.shaped (.tuple ds) = true ∧ Q (.bl (xor neg (ds.any fun z => PyData.eqv z d))) H
theorem op_inT (hu : X.A.units + 64 < cLine) : OpR X (compareOp .In) (rInT false X.K) := by
  intro pins s σ H x y v u Q I rx ry h
  obtain ⟨d, ds, hd, he, sd, se, q⟩ := h
  obtain ⟨as, r1⟩ := Dp.reads I d x v hd rx
  obtain ⟨bs, r2⟩ := Dp.reads I (.tuple ds) y u he ry
  refine SeqAt.in_tuple_reads r2 r1 (SeqAt.canLay_of_shaped se) (SeqAt.canLay_of_shaped sd) ?_ ⟨.bl _, H, I, rfl, by simpa using q⟩
  have z := SeqAt.depth_of_shaped se
  rw [PyData.depth] at z
  omega
theorem op_notInT (hu : X.A.units + 64 < cLine) : OpR X (compareOp .NotIn) (rInT true X.K) := by
  intro pins s σ H x y v u Q I rx ry h
  obtain ⟨d, ds, hd, he, sd, se, q⟩ := h
  obtain ⟨as, r1⟩ := Dp.reads I d x v hd rx
  obtain ⟨bs, r2⟩ := Dp.reads I (.tuple ds) y u he ry
  refine SeqAt.notIn_tuple_reads r2 r1 (SeqAt.canLay_of_shaped se) (SeqAt.canLay_of_shaped sd) ?_ ⟨.bl _, H, I, rfl, by simpa using q⟩
  have z := SeqAt.depth_of_shaped se
  rw [PyData.depth] at z
  omega
def dInT (neg : Bool) : D2 := fun x y G R => ∃ t ds, Rdd G x t ∧ Rdd G y (.tuple ds) ∧ SeqAt.shaped t = true ∧ SeqAt.shaped (.tuple ds) = true ∧ R (.bl (xor neg (ds.any fun z => PyData.eqv z t))) G
theorem lift_inT (neg : Bool) (T : List (Addr × Str)) : Lift2 (X.K, T) (rInT neg X.K) (dInT neg) := fun x y H d e G R Q hr rx ry q cr => by
  obtain ⟨t, ds, h1, h2, s1, s2, q⟩ := q
  exact ⟨t, ds, h1.dp hr rx, h2.dp hr ry, s1, s2, cr _ _ _ _ (Up.refl H) hr (.bl _) q⟩
theorem od_inT (hu : X.A.units + 64 < cLine) : OD X (compareOp .In) (dInT false) := ⟨_, op_inT hu, lift_inT false⟩
theorem od_notInT (hu : X.A.units + 64 < cLine) : OD X (compareOp .NotIn) (dInT true) := ⟨_, op_notInT hu, lift_inT true⟩
end
/-! pairs of names -/
section
variable {X : Cx} {E : EK} {a b c : Expr} {dl : DA} {pos : Pos} {i j l : Nat} {x y z : Str} {px py pz pt : Pos} {k1 k2 pt2}
def sPar2 (i j : Nat) (dl : DA) : DSt := fun D δ G => dl δ G (fun xs G1 => match xs with
  | [u, v] => D.nx ((δ.set i (some u)).set j (some v)) G1
  | _ => False) D.ex
theorem pds_par2 (hc : X.calm = true) (hN : X.N.Nodup) (hi : X.N[i]? = some x) (hj : X.N[j]? = some y) (hij : i ≠ j)
    (hx : X.env.scope.names.lookup x = some .local) (hy : X.env.scope.names.lookup y = some .local) (ha : PDA X E [a, b] dl)
    (hw : swappedStores [.Tuple [.Name x px, .Name y py] k1 pt] (.Tuple [a, b] k2 pt2) X.env = pure (some [x, y]) := by rfl)
    (hs : swapsWithSole [.Tuple [.Name x px, .Name y py] k1 pt] (.Tuple [a, b] k2 pt2) pos.line X.env = pure false := by rfl) :
    PDS X E (.Assign [.Tuple [.Name x px, .Name y py] k1 pt] (.Tuple [a, b] k2 pt2) pos) (sPar2 i j dl) :=
  ⟨imS (ps_par hc hN hi hj hij hx hy ha.pa hw hs) fun Dn σ H ⟨δ, G, DD, sr, hr, h, cn, ct, cb, cc, cx⟩ => ⟨δ, G, _, DD.ex, sr, hr, h, fun vs H1 ds G1 u1 h1 r1 q1 => by
    cases r1 with
    | nil => exact False.elim q1
    | cons r1 r =>
      cases r with
      | nil => exact False.elim q1
      | cons r2 r =>
        cases r with
        | nil => exact ⟨_, _, rfl, cn _ _ _ _ u1 (((sr.up u1).set r1).set r2) h1 q1⟩
        | cons => exact False.elim q1, cx⟩⟩
def sPar3 (i j l : Nat) (dl : DA) : DSt := fun D δ G => dl δ G (fun xs G1 => match xs with
  | [u, v, w] => D.nx (((δ.set i (some u)).set j (some v)).set l (some w)) G1
  | _ => False) D.ex
theorem pds_par3 (hc : X.calm = true) (hN : X.N.Nodup) (hi : X.N[i]? = some x) (hj : X.N[j]? = some y) (hl : X.N[l]? = some z) (hij : i ≠ j) (hil : i ≠ l) (hjl : j ≠ l)
    (hx : X.env.scope.names.lookup x = some .local) (hy : X.env.scope.names.lookup y = some .local) (hz : X.env.scope.names.lookup z = some .local) (ha : PDA X E [a, b, c] dl)
    (hw : swappedStores [.Tuple [.Name x px, .Name y py, .Name z pz] k1 pt] (.Tuple [a, b, c] k2 pt2) X.env = pure (some [x, y, z]) := by rfl)
    (hs : swapsWithSole [.Tuple [.Name x px, .Name y py, .Name z pz] k1 pt] (.Tuple [a, b, c] k2 pt2) pos.line X.env = pure false := by rfl) :
    PDS X E (.Assign [.Tuple [.Name x px, .Name y py, .Name z pz] k1 pt] (.Tuple [a, b, c] k2 pt2) pos) (sPar3 i j l dl) :=
  ⟨imS (ps_par3 hc hN hi hj hl hij hil hjl hx hy hz ha.pa hw hs) fun Dn σ H ⟨δ, G, DD, sr, hr, h, cn, ct, cb, cc, cx⟩ => ⟨δ, G, _, DD.ex, sr, hr, h, fun vs H1 ds G1 u1 h1 r1 q1 => by
    cases r1 with
    | nil => exact False.elim q1
    | cons r1 r =>
      cases r with
      | nil => exact False.elim q1
      | cons r2 r =>
        cases r with
        | nil => exact False.elim q1
        | cons r3 r =>
          cases r with
          | nil => exact ⟨_, _, _, rfl, cn _ _ _ _ u1 ((((sr.up u1).set r1).set r2).set r3) h1 q1⟩
          | cons => exact False.elim q1, cx⟩⟩
/-! while -/
def sWhile (c : DT) (t : DSt) : DSt := fun D δ G => ∃ W : Nat → DS → DH → Prop, (∃ m, W m δ G) ∧ ∀ m δ G, W m δ G →
  c δ G (fun b G1 => if b = true then t { D with nx := fun δ' G' => ∃ m', m' < m ∧ W m' δ' G', ct := fun δ' G' => ∃ m', m' < m ∧ W m' δ' G', bk := D.nx } δ G1 else D.nx δ G1) D.ex
theorem pds_while {cd : Expr} {body : List Stmt} {tc : DT} {tb : DSt} (hp : PassesOwn (model X.prog X.w) X.A X.env X.xe) (hc : PDT X E cd tc) (hb : PDSs X E body tb) : PDS X E (.While cd body [] pos) (sWhile tc tb) :=
  ⟨imS (ps_while hp hc.pt hb.ps) fun Dn σ H ⟨δ, G, DD, sr, hr, h, cn, ct, cb, cc, cx⟩ => by
    obtain ⟨W, ⟨m0, w0⟩, turn⟩ := h
    refine ⟨fun m σ' H' => ∃ δ' G', SRel (kt X E) H' σ' δ' ∧ HRel (kt X E) G' H' ∧ Up H H' ∧ W m δ' G', ⟨m0, δ, G, sr, hr, Up.refl H, w0⟩, ?_⟩
    rintro m σ1 H1 ⟨δ1, G1, s1, h1, u1, w1⟩
    refine ⟨δ1, G1, _, _, s1, h1, turn m δ1 G1 w1, fun b H2 G2 u2 h2 q2 => ?_, cx.up u1⟩
    have u12 := u1.trans u2
    cases b with
    | true =>
      rw [if_pos rfl] at q2
      show if true = true then _ else _
      rw [if_pos rfl]
      exact ⟨fun σ' H' => ∃ m', m' < m ∧ ∃ δ' G', SRel (kt X E) H' σ' δ' ∧ HRel (kt X E) G' H' ∧ Up H H' ∧ W m' δ' G', fun σ' H' z => z,
        δ1, G2, _, s1.up u2, h2, q2, fun σ3 H3 δ3 G3 u3 s3 h3 ⟨m', l, w⟩ => ⟨m', l, δ3, G3, s3, h3, u12.trans u3, w⟩, ct.up u12, cn.up u12, fun σ3 H3 δ3 G3 u3 s3 h3 ⟨m', l, w⟩ => ⟨m', l, δ3, G3, s3, h3, u12.trans u3, w⟩, cx.up u12⟩
    | false =>
      rw [if_neg Bool.false_ne_true] at q2
      show if false = true then _ else _
      rw [if_neg Bool.false_ne_true]
      exact cn _ _ _ _ u12 (s1.up u2) h2 q2⟩
end
/-! keys -/
theorem encI_alike : ∀ a b : Int, PySem.W.alike (PyData.int a) (PyData.int b) = true := fun a b => by simp [PySem.W.alike]
theorem encI_sort : (∀ b : Int, ∃ y r, PyData.int b = .tuple (y :: r)) ∨ ∀ b : Int, PyData.int b ≠ .none ∧ ∀ xs, PyData.int b ≠ .tuple xs := .inr fun b => ⟨(by intro h; cases h), (by intro xs h; cases h)⟩
theorem encI_depth : ∀ b : Int, (PyData.int b).depth ≤ 1 := fun b => by simp [PyData.depth]
theorem kI_tl {i : Nat} : ∀ d k, kI i d = some k → ∃ l, d.tl = some l := fun d k h => by
  unfold kI at h
  split at h
  · rename_i l e
    exact ⟨l, e⟩
  · cases h
theorem encII_alike : ∀ a b : Int × Int, PySem.W.alike (encII a) (encII b) = true := fun a b => by simp [encII, PySem.W.alike, PySem.W.alikeAll]
theorem encII_sort : (∀ b : Int × Int, ∃ y r, encII b = .tuple (y :: r)) ∨ ∀ b : Int × Int, encII b ≠ .none ∧ ∀ xs, encII b ≠ .tuple xs := Or.inl fun b => ⟨.int b.1, [.int b.2], rfl⟩
theorem encII_depth : ∀ b : Int × Int, (encII b).depth ≤ 1 := fun b => by simp [encII, PyData.depth, PyData.depthAll]
theorem kII_tl : ∀ d k, kII d = some k → ∃ l, d.tl = some l := fun d k h => by
  unfold kII at h
  split at h
  · rename_i e
    exact ⟨_, e⟩
  · cases h
end Cc
/-! ### plain reasoning over readings; the draws, the comparison -/
namespace Cc
open PySem PySem.Spec PyProof.Rows L2
/-! loops -/
theorem goFor_by {ok : DH → Prop} {g : DG} {tb : DSt} {Dn : DEnds} (I : List D → DS → DH → Prop) (hok : ∀ xs δ G, I xs δ G → ok G) (hnil : ∀ δ G, I [] δ G → Dn.nx δ G)
    (hs : ∀ x xs δ G (N : DS → DH → Prop), I (x :: xs) δ G → (∀ δ' G', I xs δ' G' → N δ' G') → g x δ G (fun δ2 G2 => tb { Dn with nx := N, ct := N, bk := Dn.nx } δ2 G2) Dn.ex) :
    ∀ (l : List D) (δ : DS) (G : DH), I l δ G → goFor ok g tb Dn l δ G
  | [], δ, G, h => ⟨hok _ _ _ h, hnil _ _ h⟩
  | x :: xs, δ, G, h => ⟨hok _ _ _ h, hs x xs δ G _ h fun δ' G' h' => goFor_by I hok hnil hs xs δ' G' h'⟩
theorem goLc_by {ok : DH → Prop} {a : Addr} {g : DG} {tt : DT} {te : DE} {k : DH → Prop} {δ : DS} (I : List D → DH → Prop) (hok : ∀ xs G, I xs G → ok G) (hnil : ∀ G, I [] G → k G)
    (hs : ∀ x xs G (N : DH → Prop), I (x :: xs) G → (∀ G', I xs G' → N G') → g x δ G (fun δ2 G2 => tt δ2 G2 (fun b G3 => if b = true then te δ2 G3 (fun y G4 => ∃ acc, G4 a = some (.lst acc) ∧ acc.length < sizeLine ∧ N (updD G4 a (.lst (acc ++ [y])))) noX else N G3) noX) noX) :
    ∀ (l : List D) (G : DH), I l G → goLc ok a g tt te k δ l G
  | [], G, h => ⟨hok _ _ h, hnil _ h⟩
  | x :: xs, G, h => ⟨hok _ _ h, hs x xs G _ h fun G' h' => goLc_by I hok hnil hs xs G' h'⟩
/-- a comprehension that changes nothing -/
theorem goLc_map {ok : DH → Prop} {a : Addr} {g : DG} {tt : DT} {te : DE} {k : DH → Prop} {δ : DS} {G0 : DH} (F : D → Option D) (l : List D) (hl : l.length ≤ sizeLine) (hok : ∀ acc, ok (updD G0 a (.lst acc)))
    (hk : k (updD G0 a (.lst (l.filterMap F))))
    (hs : ∀ x ∈ l, ∀ acc (N : DH → Prop), acc.length < sizeLine → (match F x with
      | none => N (updD G0 a (.lst acc))
      | some y => N (updD G0 a (.lst (acc ++ [y])))) → g x δ (updD G0 a (.lst acc)) (fun δ2 G2 => tt δ2 G2 (fun b G3 => if b = true then te δ2 G3 (fun y G4 => ∃ acc, G4 a = some (.lst acc) ∧ acc.length < sizeLine ∧ N (updD G4 a (.lst (acc ++ [y])))) noX else N G3) noX) noX) :
    goLc ok a g tt te k δ l (updD G0 a (.lst [])) := by
  refine goLc_by (fun xs G => ∃ ys, l = ys ++ xs ∧ G = updD G0 a (.lst (ys.filterMap F))) (fun xs G ⟨ys, _, e⟩ => by rw [e]; exact hok _) (fun G ⟨ys, e1, e⟩ => by
    rw [List.append_nil] at e1
    subst e1
    rw [e]
    exact hk) (fun x xs G N ⟨ys, e1, e2⟩ hN => ?_) l _ ⟨[], rfl, rfl⟩
  subst e2
  have hlen : (ys.filterMap F).length < sizeLine := by
    have h1 := List.length_filterMap_le F ys
    rw [e1, List.length_append, List.length_cons] at hl
    omega
  refine hs x (by rw [e1]; simp) _ N hlen ?_
  cases q : F x with
  | none => exact hN _ ⟨ys ++ [x], by rw [e1]; simp, by simp [List.filterMap_append, q]⟩
  | some y => exact hN _ ⟨ys ++ [x], by rw [e1]; simp, by simp [List.filterMap_append, q]⟩
/-! forgetting what is not needed -/
def frg (R : DK) : DK := fun v G => ∃ G1, Sub G1 G ∧ R v G1
theorem frg_of {R : DK} {v : D} {G : DH} (h : R v G) : frg R v G := ⟨G, Sub.refl G, h⟩
theorem clo_frg {K : KT} {H : Hp} {Q : VK} {R : DK} (h : CloR K H Q R) : CloR K H Q (frg R) := fun v H' d G' u hr r ⟨G1, s, q⟩ => h v H' d G1 u (hr.sub s) r q
section
variable {P : Program} {w : World} {K : PySem.W.Frag} {T : List (Addr × Str)} {cv : Value → Prop} {mg : Str → Option Value} {base : Heap} {N ps : List Str} {x qual : Str} {params : Arguments} {body : List Stmt} {scope : Scope} {dvs : List V} {kws : List (Str × V)} {f : Addr} {fd : FuncData} {k : Nat} {sb : DSt} {sd : SpD}
theorem okF (F : FunD K x qual params body scope dvs kws f fd) (S : FnScope N ps scope) (hcv : cv fd.code) (len : ∀ ds G R EX, sd ds G R EX → ds.length = ps.length) (B : BodyD P w K T cv mg base N qual scope body k sb)
    (hp : ∀ ds G R EX, sd ds G R EX → sb (endsD (frg R) EX) (startD N ds) G) : FnOk P w K mg base (L2N.CX P w) (k + 1) f fd ps (upF (K, T) sd) := by
  have z := okD (T := T) (sd := fun ds G R EX => ds.length = ps.length ∧ sb (endsD R EX) (startD N ds) G) F S hcv (fun ds G R EX h => h.1) B (fun ds G R EX h => h.2)
  exact z.imp fun vs H Q E ⟨ds, G, R, EX, dv, hr, q, cr, cx⟩ => ⟨ds, G, frg R, EX, dv, hr, ⟨len _ _ _ _ q, hp _ _ _ _ q⟩, clo_frg cr, cx⟩
end
/-! the draws -/
def Draws (l : List D) : Prop := ∃ (x y : Int) (zs : List Int), l = .int x :: .int y :: zs.map D.int
def sd__law_off : SpD := fun ds G R _ => ∃ (a : Addr) (m : Int) (l : List D), ds = [.ref a, .int m] ∧ G a = some (.lst l) ∧ Draws l ∧ 0 < m ∧ m < 1073741824 ∧ ∀ r l', 0 ≤ r → r < m → Draws l' → R (.int r) (updD G a (.lst l'))
def seqI (G : DH) (x : D) (ns : List Int) : Prop := (x = .rol (ns.map D.int) ∨ x = .wol (ns.map D.int)) ∨ ∃ a, x = .ref a ∧ G a = some (.lst (ns.map D.int))
def sd__law_dice : SpD := fun ds G R _ => ∃ (x : D) (k : Int) (ns : List Int), ds = [x, .int k] ∧ seqI G x ns ∧ ns.length ≤ 1000 ∧ ∀ p l, G p = none → Draws l → R (.ref p) (updD G p (.lst l))
mutual
/-- no list, no tuple of it is very long -/
def lean : PyData → Bool
  | .list xs => decide (xs.length ≤ 100000) && leanAll xs
  | .tuple xs => decide (xs.length ≤ 100000) && leanAll xs
  | .dict _ => false
  | _ => true
def leanAll : List PyData → Bool
  | [] => true
  | x :: xs => lean x && leanAll xs
end
def sd__law_alike : Nat → SpD
  | 0 => fun _ _ _ _ => False
  | k + 1 => fun ds G R _ => ∃ (x y : D) (t : PyData), ds = [x, y] ∧ Rdd G x t ∧ Rdd G y t ∧ t.depth ≤ k ∧ lean t = true ∧ R (.bl true) G
def b__law_off : DSt :=
  (sSeq (sIf (dAnd (dTest (dOp dEq (dOp dIx (dVar 0) (dC (.int 1))) (dC (.int 0)))) (dTest (dOp dGt (dCB dLen (dCons (dVar 0) dNil)) (dC (.int 2))))) (sAsg (dBM "list" mPopAt (dVar 0) (dCons (dC (.int 2)) dNil)) (gS (dVar 0) (dC (.int 1)) dSetL)) sNext)
  (sSeq (sIf (dTest (dOp dGt (dOp dIx (dVar 0) (dC (.int 1))) (dC (.int 0)))) (sSeq (sAsg (dOp dMod (dOp dIx (dVar 0) (dC (.int 1))) (dVar 1)) (gN 2))
  (sSeq (sAsg (dOp dFdiv (dOp dIx (dVar 0) (dC (.int 1))) (dVar 1)) (gS (dVar 0) (dC (.int 1)) dSetL))
  (sRet (dVar 2)))) sNext)
  (sSeq (sAsg (dOp dMod (dOp dAdd (dOp dMul (dOp dIx (dVar 0) (dC (.int 0))) (dC (.int 48271))) (dC (.int 11))) (dC (.int 2147483647))) (gS (dVar 0) (dC (.int 0)) dSetL))
  (sRet (dOp dMod (dOp dFdiv (dOp dIx (dVar 0) (dC (.int 0))) (dC (.int 64))) (dVar 1))))))
abbrev N__law_off : List Str := ["_law_d", "_law_most", "_law_found"]
def b__law_dice : DSt :=
  (sSeq (sAsg (dVar 1) (gN 2))
  (sSeq (sFor (iSq (dVar 0)) (gN 3) (sAsg (dOp dMod (dOp dAdd (dOp dMul (dVar 2) (dC (.int 31))) (dCB dAbs (dCons (dVar 3) dNil))) (dC (.int 2147483647))) (gN 2)))
  (sRet (dOp dAdd (dLst (dCons (dVar 2) (dCons (dC (.int 0)) dNil))) (dLc (iSq (dVar 0)) (gN 3) (dTest (dOp dGe (dVar 3) (dOp dPow (dC (.int 10)) (dC (.int 18))))) (dVar 3) [3])))))
abbrev N__law_dice : List Str := ["_law_script", "_law_k", "_law_found", "_law_cell"]
def b__law_alike (k : Nat) : DSt :=
  (sSeq (sIf (dTest (dOp dIsN (dVar 1) (dC .non))) (sRet (dOp dIsN (dVar 0) (dC .non))) sNext)
  (sSeq (sIf (dTest (dCB dIsi (dCons (dVar 1) (dCons (dC (.ty "bool")) dNil)))) (sRet (dAndV (dCB dIsi (dCons (dVar 0) (dCons (dC (.ty "bool")) dNil))) (dOp dEq (dVar 0) (dVar 1)))) sNext)
  (sSeq (sIf (dTest (dCB dIsi (dCons (dVar 1) (dCons (dC (.ty "int")) dNil)))) (sRet (dAndV (dCB dIsi (dCons (dVar 0) (dCons (dC (.ty "int")) dNil))) (dAndV (dNotV (dCB dIsi (dCons (dVar 0) (dCons (dC (.ty "bool")) dNil)))) (dOp dEq (dVar 0) (dVar 1))))) sNext)
  (sSeq (sIf (dTest (dCB dIsi (dCons (dVar 1) (dCons (dC (.ty "str")) dNil)))) (sRet (dAndV (dCB dIsi (dCons (dVar 0) (dCons (dC (.ty "str")) dNil))) (dOp dEq (dVar 0) (dVar 1)))) sNext)
  (sSeq (sIf (dOr (dTest (dOp dNe (dCB dIsi (dCons (dVar 1) (dCons (dC (.ty "tuple")) dNil))) (dCB dIsi (dCons (dVar 0) (dCons (dC (.ty "tuple")) dNil))))) (dTest (dOp dNe (dCB dIsi (dCons (dVar 1) (dCons (dC (.ty "list")) dNil))) (dCB dIsi (dCons (dVar 0) (dCons (dC (.ty "list")) dNil)))))) (sRet (dC (.bl false))) sNext)
  (sSeq (sIf (dTest (dOp dNe (dCB dLen (dCons (dVar 0) dNil)) (dCB dLen (dCons (dVar 1) dNil)))) (sRet (dC (.bl false))) sNext)
  (sRet (dCB dAll (dCons (dLc (iRange1 (dCB dLen (dCons (dVar 1) dNil))) (gN 2) dYes (dCall (sd__law_alike k) (dCons (dOp dIx (dVar 0) (dVar 2)) (dCons (dOp dIx (dVar 1) (dVar 2)) dNil))) [2]) dNil)))))))))
abbrev N__law_alike : List Str := ["_law_found", "_law_due", "_law_k"]
end Cc
namespace Cc
open PySem PySem.Spec PyProof.Rows L2
theorem dEq_int {i j : Int} {G : DH} {R : DK} : dEq (.int i) (.int j) G R = R (.bl (decide (i = j))) G := rfl
theorem dNe_int {i j : Int} {G : DH} {R : DK} : dNe (.int i) (.int j) G R = R (.bl (!decide (i = j))) G := rfl
theorem blD_bl {R : Bool → DH → Prop} {c : Bool} {G : DH} : blD R (.bl c) G = R c G := rfl
local macro_rules | `(tactic| walk_at "rd") => `(tactic| try simp only [sSeq, sIf, sAsg, sRet, sRetN, sDrop, sNext, gN, dTest, dAnd, dOr, dNot, dAndV, dOrV, dNotV, dIf, dOp, dUn, dVar, dC, dCons, dNil, dCB, dTup, dLst, blD_bl, dEq_int, dNe_int, dLt, dLe, dGt, dGe, dMod, dFdiv, dIsN, dNotN, D.isN, dAbs, List.getElem?_cons_zero, List.getElem?_cons_succ, List.set_cons_zero, List.set_cons_succ, decide_eq_true_eq, if_true, if_false, Bool.false_eq_true, ite_true, ite_false])
theorem ix_at {G : DH} {a : Addr} {l : List D} {i : Int} {d : D} {R : DK} (h : G a = some (.lst l)) (e : L2.atI l i = some d) (q : R d G) : dIx (.ref a) (.int i) G R := by
  have e1 : itemOf G (.ref a) (.int i) = some d := by
    unfold itemOf
    dsimp only
    rw [h]
    exact e
  unfold dIx
  rw [e1]
  exact q
theorem atI_0 {α : Type} {x : α} {xs : List α} : L2.atI (x :: xs) 0 = some x := by
  unfold L2.atI L2.ixN
  simp
theorem atI_1 {α : Type} {x y : α} {xs : List α} : L2.atI (x :: y :: xs) 1 = some y := by
  unfold L2.atI L2.ixN
  rw [if_pos (by omega), if_pos (by rw [List.length_cons, List.length_cons]; omega)]
  rfl
theorem seq_cut {t u : DSt} {Dn : DEnds} {δ : DS} {G : DH} (Post : DS → DH → Prop) (h1 : ∀ N : DS → DH → Prop, (∀ δ' G', Post δ' G' → N δ' G') → t { Dn with nx := N } δ G) (h2 : ∀ δ' G', Post δ' G' → u Dn δ' G') : sSeq t u Dn δ G := h1 _ h2
theorem ixN_0 {n : Nat} : L2.ixN (n + 1) 0 = some 0 := by
  unfold L2.ixN
  rw [if_pos (by omega), if_pos (by omega)]
  rfl
theorem ixN_1 {n : Nat} : L2.ixN (n + 1 + 1) 1 = some 1 := by
  unfold L2.ixN
  rw [if_pos (by omega), if_pos (by omega)]
  rfl
theorem pure_off (ds : List D) (G : DH) (R : DK) (EX : DX) (h : sd__law_off ds G R EX) : b__law_off (endsD R EX) (startD N__law_off ds) G := by
  obtain ⟨a, m, l, rfl, hG, ⟨x, y, zs, rfl⟩, m0, m1, q⟩ := h
  show b__law_off (endsD R EX) [some (.ref a), some (.int m), none] G
  unfold b__law_off
  refine seq_cut (fun δ' G' => δ' = [some (.ref a), some (.int m), none] ∧ ∃ (y : Int) (zs : List Int), G' a = some (.lst (.int x :: .int y :: zs.map D.int)) ∧ ∀ c, updD G' a c = updD G a c) (fun N hN => ?_) ?_
  · walk_at "rd"
    refine ix_at hG atI_1 ?_
    walk_at "rd"
    have same : N [some (.ref a), some (.int m), none] G := hN _ _ ⟨rfl, y, zs, hG, fun c => rfl⟩
    by_cases hy : y = 0
    · subst hy
      rw [if_pos rfl]
      simp only [dLen, lenOf, hG]
      walk_at "rd"
      cases zs with
      | nil =>
        rw [if_neg (by simp)]
        exact same
      | cons z zs =>
        rw [if_pos (by simp; omega)]
        simp only [dBM, tyR]
        walk_at "rd"
        simp only [hG]
        refine ⟨trivial, _, 2, .int z, hG, by omega, by omega, by simp [seqIndex?]; omega, rfl, ?_⟩
        simp only [gS, dSetL, setF]
        walk_at "rd"
        simp only [updD_same]
        refine ⟨1, ixN_1, ?_⟩
        rw [updD_updD]
        exact hN _ _ ⟨rfl, z, zs, updD_same, fun c => updD_updD⟩
    · rw [if_neg hy]
      exact same
  · rintro δ' G' ⟨rfl, y, zs, hA, hU⟩
    walk_at "rd"
    refine ix_at hA atI_1 ?_
    walk_at "rd"
    by_cases hy : 0 < y
    · rw [if_pos hy]
      refine ix_at hA atI_1 ⟨m0, ?_⟩
      refine ix_at hA atI_1 ?_
      walk_at "rd"
      refine ⟨⟨m0, m1⟩, ?_⟩
      simp only [gS, dSetL, setF]
      walk_at "rd"
      simp only [hA]
      refine ⟨1, ixN_1, ?_⟩
      rw [hU]
      exact q _ _ (Int.emod_nonneg _ (by omega)) (Int.emod_lt_of_pos _ m0) ⟨_, _, zs, rfl⟩
    · rw [if_neg hy]
      refine ix_at hA atI_0 ?_
      simp only [dMul, dAdd]
      refine ⟨Or.inr (by omega), by omega, ?_⟩
      simp only [gS, dSetL, setF]
      walk_at "rd"
      simp only [hA]
      refine ⟨0, ixN_0, ?_⟩
      refine ix_at updD_same atI_0 ?_
      walk_at "rd"
      refine ⟨by unfold CDiv; omega, m0, ?_⟩
      rw [hU]
      exact q _ _ (Int.emod_nonneg _ (by omega)) (Int.emod_lt_of_pos _ m0) ⟨_, _, zs, rfl⟩
theorem Sub.updD {G G' : DH} (s : Sub G G') {a : Addr} {c : C} : Sub (updD G a c) (updD G' a c) := fun b u e => by
  by_cases hb : b = a
  · subst hb
    rw [updD_same] at e ⊢
    exact e
  · rw [updD_ne hb] at e ⊢
    exact s b u e
theorem Sub.up {G G' : DH} (s : Sub G G') {a : Addr} {c : C} (h : G a = none) (h' : G' a = some c) : Sub (Cc.updD G a c) G' := fun b u e => by
  by_cases hb : b = a
  · subst hb
    rw [updD_same] at e
    rw [h']
    exact e
  · rw [updD_ne hb] at e
    exact s b u e
theorem none_up {G : DH} {a b : Addr} {c : C} (h : updD G a c b = none) : G b = none ∧ b ≠ a := by
  by_cases hb : b = a
  · subst hb
    rw [updD_same] at h
    cases h
  · rw [updD_ne hb] at h
    exact ⟨h, hb⟩
theorem seqI_new {G : DH} {x : D} {ns : List Int} {p : Addr} {c : C} (h : seqI G x ns) (n : G p = none) : seqI (updD G p c) x ns := by
  rcases h with h | ⟨a, h, e⟩
  · exact .inl h
  · exact .inr ⟨a, h, Sub.new n _ _ e⟩
theorem iSq_I {i : Nat} {δ : DS} {G : DH} {RR : List D → (DH → Prop) → DH → Prop} {EX : DX} {x : D} {ns : List Int} (hx : δ[i]? = some (some x)) (h : seqI G x ns) (q : ∀ ok : DH → Prop, (∀ G', seqI G' x ns → ok G') → RR (ns.map D.int) ok G) : iSq (dVar i) δ G RR EX := by
  unfold iSq dVar
  rw [hx]
  rcases h with (rfl | rfl) | ⟨a, rfl, e⟩
  · exact q _ fun G' _ => trivial
  · exact q _ fun G' _ => trivial
  · refine ⟨_, e, q _ fun G' h' => ?_⟩
    rcases h' with (h' | h') | ⟨b, h', e'⟩
    · cases h'
    · cases h'
    · cases h'
      exact e'
theorem pure_dice (ds : List D) (G : DH) (R : DK) (EX : DX) (h : sd__law_dice ds G R EX) : b__law_dice (endsD (frg R) EX) (startD N__law_dice ds) G := by
  obtain ⟨x, k, ns, rfl, hx, hn, q⟩ := h
  show b__law_dice (endsD (frg R) EX) [some x, some (.int k), none, none] G
  unfold b__law_dice
  refine seq_cut (fun δ' G' => δ' = [some x, some (.int k), some (.int k), none] ∧ G = G') (fun N hN => ?_) ?_
  · walk_at "rd"
    exact hN _ _ ⟨rfl, rfl⟩
  rintro _ _ ⟨rfl, rfl⟩
  refine seq_cut (fun δ' G' => (∃ f o, δ' = [some x, some (.int k), some (.int f), o]) ∧ G = G') (fun N hN => ?_) ?_
  · unfold sFor
    refine iSq_I rfl hx fun ok hok => goFor_by (fun xs δ' G' => (∃ f o, δ' = [some x, some (.int k), some (.int f), o]) ∧ G = G' ∧ ∃ ms : List Int, xs = ms.map D.int) (fun xs δ G' h => hok _ (h.2.1 ▸ hx)) (fun δ G' h => hN _ _ ⟨h.1, h.2.1⟩) (fun y ys δ G' M h hM => ?_) _ _ _ ⟨⟨k, none, rfl⟩, rfl, ns, rfl⟩
    obtain ⟨⟨f, o, rfl⟩, rfl, ms, e⟩ := h
    cases ms with
    | nil => cases e
    | cons m ms =>
      cases e
      walk_at "rd"
      simp only [dMul, dAdd]
      walk_at "rd"
      exact ⟨Or.inr (by omega), by omega, hM _ _ ⟨⟨_, _, rfl⟩, rfl, ms, rfl⟩⟩
  rintro _ _ ⟨⟨f, o, rfl⟩, rfl⟩
  walk_at "rd"
  refine ⟨by simp [sizeLine_eq], fun p hp => ?_⟩
  unfold dLc
  refine iSq_I rfl (seqI_new hx hp) fun ok hok => fun p2 hp2 => ?_
  obtain ⟨n2, ne2⟩ := none_up hp2
  refine goLc_map (fun y => match y with
    | .int c => if (10 : Int) ^ 18 ≤ c then some (.int c) else none
    | _ => none) _ (by rw [List.length_map, sizeLine_eq]; omega) (fun acc => hok _ (seqI_new (seqI_new hx hp) hp2)) ?_ fun y hy acc N hacc hN => ?_
  · have e : ∀ ns : List Int, ((ns.map D.int).filterMap fun y => match y with
      | .int c => if (10 : Int) ^ 18 ≤ c then some (D.int c) else none
      | _ => none) = (ns.filter fun c => decide ((10 : Int) ^ 18 ≤ c)).map D.int := fun ns => by
      induction ns with
      | nil => rfl
      | cons n ns ih =>
        rw [List.map_cons, List.filterMap_cons, List.filter_cons, ih]
        by_cases h : (10 : Int) ^ 18 ≤ n
        · simp only [h, if_true, decide_true, List.map_cons]
        · simp only [h, if_false, decide_false, Bool.false_eq_true]
    rw [e]
    unfold dAdd
    refine ⟨[.int f, .int 0], (ns.filter fun c => decide ((10 : Int) ^ 18 ≤ c)).map D.int, by rw [updD_ne (Ne.symm ne2)]; exact updD_same, updD_same, ?_, fun n hn => ?_⟩
    · have := List.length_filter_le (fun c => decide ((10 : Int) ^ 18 ≤ c)) ns
      rw [List.length_map, sizeLine_eq]
      simp only [List.length_cons, List.length_nil]
      omega
    · obtain ⟨h1, _⟩ := none_up hn
      obtain ⟨h2, _⟩ := none_up h1
      exact ⟨_, ((Sub.new hp).trans (Sub.new hp2)).updD, q n _ h2 ⟨f, 0, _, rfl⟩⟩
  · obtain ⟨m, hm, rfl⟩ := List.mem_map.mp hy
    simp only [wipeD]
    walk_at "rd"
    simp only [dPow, dGe]
    refine ⟨by unfold CPow; decide, ?_⟩
    have e18 : (18 : Int).toNat = 18 := rfl
    rw [e18] at *
    by_cases h : (10 : Int) ^ 18 ≤ m
    · rw [if_pos h]
      simp only [h, if_true] at hN
      exact ⟨acc, updD_same, hacc, by rw [updD_updD]; exact hN⟩
    · rw [if_neg h]
      simp only [h, if_false] at hN
      exact hN
end Cc
namespace Cc
open PySem PySem.Spec PyProof.Rows L2
local macro_rules | `(tactic| walk_at "rd") => `(tactic| try simp only [sSeq, sIf, sAsg, sRet, sRetN, sDrop, sNext, gN, dTest, dAnd, dOr, dNot, dAndV, dOrV, dNotV, dIf, dOp, dUn, dVar, dC, dCons, dNil, dCB, dTup, dLst, blD_bl, dEq_int, dNe_int, dLt, dLe, dGt, dGe, dMod, dFdiv, dIsN, dNotN, D.isN, dAbs, List.getElem?_cons_zero, List.getElem?_cons_succ, List.set_cons_zero, List.set_cons_succ, decide_eq_true_eq, if_true, if_false, Bool.false_eq_true, ite_true, ite_false])
theorem isi_ty {G : DH} {x : D} {t T : String} {b : Bool} {R : DK} (h : tyD G x = some t) (e : kitB t T = some b) (q : R (.bl b) G) : dIsi [x, .ty T] G R := by
  have z : (match tyD G x with
    | some t => (match kitB t T with
      | some b => R (.bl b) G
      | none => False)
    | none => False) := by
    rw [h]
    dsimp only
    rw [e]
    exact q
  exact z
theorem tyD_tl {G : DH} {x : D} {l : List D} (e : x.tl = some l) : tyD G x = some "tuple" := by
  cases x <;> first | rfl | cases e
theorem seq_tl {G : DH} {x : D} {l : List D} (e : x.tl = some l) : seqOf G x = some l := by
  cases x <;> first | exact e | cases e
theorem isN_tl {x : D} {l : List D} (e : x.tl = some l) : x.isN = false := by
  cases x <;> first | rfl | cases e
theorem len_seq {G : DH} {x : D} {l : List D} (e : seqOf G x = some l) : lenOf G x = some l.length := by
  unfold seqOf at e
  split at e
  · rename_i a
    unfold lenOf
    dsimp only
    split at e
    · rename_i l' ea
      cases e
      rw [ea]
    · cases e
  · cases e
    rfl
  · rename_i h1 h2
    have e2 : seqOf G x = some l := seq_tl e
    unfold lenOf
    split
    · cases e
    · exact absurd rfl (h1 _)
    · rw [e2]
      rfl
theorem item_seq {G : DH} {x : D} {l : List D} {i : Int} (e : seqOf G x = some l) : itemOf G x (.int i) = L2.atI l i := by
  unfold seqOf at e
  split at e
  · rename_i a
    unfold itemOf
    dsimp only
    split at e
    · rename_i l' ea
      cases e
      rw [ea]
    · cases e
  · cases e
    rfl
  · rename_i h1 h2
    cases x <;> first | (cases e; rfl) | cases e
theorem ix_seqd {G : DH} {x : D} {l : List D} {i : Int} {d : D} {R : DK} (e : seqOf G x = some l) (h : L2.atI l i = some d) (q : R d G) : dIx x (.int i) G R := by
  have e1 : itemOf G x (.int i) = some d := (item_seq e).trans h
  unfold dIx
  rw [e1]
  exact q
theorem atI_nat {α : Type} {l : List α} {i : Nat} {x : α} (h : l[i]? = some x) : L2.atI l (i : Int) = some x := by
  have hl := (List.getElem?_eq_some_iff.mp h).1
  unfold L2.atI L2.ixN
  rw [if_pos (by omega), if_pos (by omega)]
  exact h
mutual
theorem Rdd.sub {G G' : DH} (s : Sub G G') : ∀ {d : D} {t : PyData}, Rdd G d t → Rdd G' d t
  | _, _, .non => .non
  | _, _, .bl b => .bl b
  | _, _, .int i => .int i
  | _, _, .str x => .str x
  | _, _, .tup e r => .tup e (RddL.sub s r)
  | _, _, .rol r => .rol (RddL.sub s r)
  | _, _, .lst e r => .lst (s _ _ e) (RddL.sub s r)
theorem RddL.sub {G G' : DH} (s : Sub G G') : ∀ {d : List D} {t : List PyData}, RddL G d t → RddL G' d t
  | _, _, .nil => .nil
  | _, _, .cons h r => .cons (Rdd.sub s h) (RddL.sub s r)
end
theorem RddL.get {G : DH} : ∀ {l : List D} {ts : List PyData} {i : Nat}, RddL G l ts → i < ts.length → ∃ d t, l[i]? = some d ∧ ts[i]? = some t ∧ Rdd G d t
  | _, _, _, .nil, h => by simp at h
  | _, _, 0, .cons h _, _ => ⟨_, _, rfl, rfl, h⟩
  | _, _, i + 1, .cons _ r, h => by
    obtain ⟨d, t, a, b, c⟩ := RddL.get (i := i) r (by simpa using h)
    exact ⟨d, t, by simpa using a, by simpa using b, c⟩
theorem depth_at : ∀ {ts : List PyData} {i : Nat} {t : PyData}, ts[i]? = some t → t.depth ≤ PyData.depthAll ts
  | [], _, _, e => by simp at e
  | x :: xs, 0, t, e => by
    simp at e
    subst e
    rw [PyData.depthAll]
    omega
  | x :: xs, i + 1, t, e => by
    have := depth_at (ts := xs) (i := i) (by simpa using e)
    rw [PyData.depthAll]
    omega
theorem lean_at : ∀ {ts : List PyData} {i : Nat} {t : PyData}, ts[i]? = some t → leanAll ts = true → lean t = true
  | [], _, _, e, _ => by simp at e
  | x :: xs, 0, t, e, h => by
    simp at e
    subst e
    rw [leanAll] at h
    exact (Bool.and_eq_true_iff.mp h).1
  | x :: xs, i + 1, t, e, h => by
    rw [leanAll] at h
    exact lean_at (ts := xs) (i := i) (by simpa using e) (Bool.and_eq_true_iff.mp h).2
theorem Rdd.ty {G : DH} {x : D} {t : PyData} : Rdd G x t → tyD G x = some (match t with
  | .none => "NoneType"
  | .bool _ => "bool"
  | .int _ => "int"
  | .str _ => "str"
  | .tuple _ => "tuple"
  | .list _ => "list"
  | .dict _ => "dict") := fun h => by
  cases h with
  | tup e r => exact tyD_tl e
  | lst e r =>
    unfold tyD
    dsimp only
    rw [e]
  | _ => rfl
theorem Rdd.nonN {G : DH} {x : D} {t : PyData} (h : Rdd G x t) (n : t ≠ .none) : x.isN = false := by
  cases h with
  | non => exact absurd rfl n
  | tup e r => exact isN_tl e
  | _ => rfl
theorem rangeD_len {lo : Int} {n : Nat} : (rangeD lo n).length = n := by unfold rangeD; rw [List.length_map, List.length_range]
theorem pure_seq {G : DH} {k : Nat} {x y : D} {lx ly : List D} {ts : List PyData} {R : DK} {EX : DX} (sx : seqOf G x = some lx) (sy : seqOf G y = some ly) (rx : RddL G lx ts) (ry : RddL G ly ts) (hd : PyData.depthAll ts + 1 ≤ k) (hl : ts.length ≤ 100000) (hla : leanAll ts = true) (q : R (.bl true) G) (δ : DS) (h0 : δ[0]? = some (some x)) (h1 : δ[1]? = some (some y)) (h3 : δ.length = 3) (up : ∀ G', Sub G G' → seqOf G' x = some lx ∧ seqOf G' y = some ly) :
    sRet (dCB dAll (dCons (dLc (iRange1 (dCB dLen (dCons (dVar 1) dNil))) (gN 2) dYes (dCall (sd__law_alike k) (dCons (dOp dIx (dVar 0) (dVar 2)) (dCons (dOp dIx (dVar 1) (dVar 2)) dNil))) [2]) dNil)) (endsD (frg R) EX) δ G := by
  have ex : lx.length = ts.length := rx.len
  have ey : ly.length = ts.length := ry.len
  obtain ⟨o0, o1, o2, rfl⟩ : ∃ o0 o1 o2, δ = [o0, o1, o2] := by
    match δ, h3 with
    | [a, b, c], _ => exact ⟨a, b, c, rfl⟩
  cases h0
  cases h1
  walk_at "rd"
  simp only [dLc, iRange1]
  walk_at "rd"
  simp only [dLen, len_seq sy]
  refine ⟨⟨by omega, by omega⟩, fun p hp => ?_⟩
  have eN : ((ly.length : Nat) : Int).toNat = ts.length := by omega
  rw [eN]
  refine goLc_map (fun _ => some (.bl true)) _ (by rw [rangeD_len, sizeLine_eq]; omega) (fun _ => trivial) ?_ fun z hz acc N hacc hN => ?_
  · have e : (rangeD 0 ts.length).filterMap (fun _ => some (D.bl true)) = (List.replicate ts.length true).map D.bl := by
      rw [List.map_replicate]
      unfold rangeD
      rw [List.filterMap_map]
      have : ∀ l : List Nat, l.filterMap ((fun _ => some (D.bl true)) ∘ fun i : Nat => D.int (0 + (i : Nat))) = List.replicate l.length (D.bl true) := fun l => by
        induction l with
        | nil => rfl
        | cons a l ih =>
          rw [List.filterMap_cons, ih]
          rfl
      rw [this, List.length_range]
    rw [e]
    refine ⟨_, updD_same, ?_⟩
    have e2 : (List.replicate ts.length true).all id = true := by
      rw [List.all_eq_true]
      intro b hb
      rw [(List.mem_replicate.mp hb).2]
      rfl
    rw [e2]
    exact ⟨G, Sub.new hp, q⟩
  · unfold rangeD at hz
    obtain ⟨i, hi, rfl⟩ := List.mem_map.mp hz
    have hi := List.mem_range.mp hi
    obtain ⟨dx, t, a1, a2, a3⟩ := rx.get hi
    obtain ⟨dy, t', b1, b2, b3⟩ := ry.get hi
    rw [a2] at b2
    cases b2
    have sG : Sub G (updD G p (.lst acc)) := Sub.new hp
    obtain ⟨u1, u2⟩ := up _ sG
    simp only [wipeD, dYes, dCall]
    walk_at "rd"
    rw [Int.zero_add]
    refine ix_seqd u1 (atI_nat a1) ?_
    refine ix_seqd u2 (atI_nat b1) ?_
    have dt := depth_at a2
    obtain ⟨j, rfl⟩ : ∃ j, k = j + 1 := ⟨k - 1, by omega⟩
    exact ⟨dx, dy, t, rfl, a3.sub sG, b3.sub sG, by omega, lean_at a2 hla, acc, updD_same, hacc, by rw [updD_updD]; exact hN⟩
theorem if_skip {c : DT} {A u : DSt} {Dn : DEnds} {δ : DS} {G : DH} (h : ∀ R' : Bool → DH → Prop, R' false G → c δ G R' Dn.ex) (h2 : u Dn δ G) : sSeq (sIf c A sNext) u Dn δ G := h _ h2
theorem if_take {c : DT} {A B u : DSt} {Dn : DEnds} {δ : DS} {G : DH} (h : ∀ R' : Bool → DH → Prop, R' true G → c δ G R' Dn.ex) (h2 : A { Dn with nx := u Dn } δ G) : sSeq (sIf c A B) u Dn δ G := h _ h2
theorem tst_isi {i : Nat} {x : D} {δ : DS} {G : DH} {t T : String} {b : Bool} {R : Bool → DH → Prop} {EX : DX} (hx : δ[i]? = some (some x)) (h : tyD G x = some t) (e : kitB t T = some b) (q : R b G) : dTest (dCB dIsi (dCons (dVar i) (dCons (dC (.ty T)) dNil))) δ G R EX := by
  simp only [dTest, dCB, dCons, dVar, hx, dC, dNil]
  exact isi_ty h e q
theorem val_isi {i : Nat} {x : D} {δ : DS} {G : DH} {t T : String} {b : Bool} {R : DK} {EX : DX} (hx : δ[i]? = some (some x)) (h : tyD G x = some t) (e : kitB t T = some b) (q : R (.bl b) G) : dCB dIsi (dCons (dVar i) (dCons (dC (.ty T)) dNil)) δ G R EX := by
  simp only [dCB, dCons, dVar, hx, dC, dNil]
  exact isi_ty h e q
theorem dNe_bl {b c : Bool} {G : DH} {R : DK} : dNe (.bl b) (.bl c) G R = R (.bl (!decide (b = c))) G := rfl
theorem dEq_bl {b c : Bool} {G : DH} {R : DK} : dEq (.bl b) (.bl c) G R = R (.bl (decide (b = c))) G := rfl
theorem dEq_str {b c : Str} {G : DH} {R : DK} : dEq (.str b) (.str c) G R = R (.bl (decide (b = c))) G := rfl
theorem ne_isi {x y : D} {G : DH} {t T : String} {b : Bool} {R : Bool → DH → Prop} {EX : DX} {o : Option D} (hx : tyD G x = some t) (hy : tyD G y = some t) (e : kitB t T = some b) (q : R false G) : dTest (dOp dNe (dCB dIsi (dCons (dVar 1) (dCons (dC (.ty T)) dNil))) (dCB dIsi (dCons (dVar 0) (dCons (dC (.ty T)) dNil)))) [some x, some y, o] G R EX := by
  simp only [dTest, dOp]
  refine val_isi rfl hy e ?_
  refine val_isi rfl hx e ?_
  rw [dNe_bl, blD_bl, decide_eq_true rfl]
  exact q
theorem ne_len {x y : D} {G : DH} {lx ly : List D} {R : Bool → DH → Prop} {EX : DX} {o : Option D} (hx : seqOf G x = some lx) (hy : seqOf G y = some ly) (e : lx.length = ly.length) (q : R false G) : dTest (dOp dNe (dCB dLen (dCons (dVar 0) dNil)) (dCB dLen (dCons (dVar 1) dNil))) [some x, some y, o] G R EX := by
  simp only [dTest, dOp, dCB, dCons, dNil, dVar, List.getElem?_cons_zero, List.getElem?_cons_succ, dLen, len_seq hx, len_seq hy, dNe_int, blD_bl, e, decide_true, Bool.not_true]
  exact q
theorem pure_alike (k : Nat) (ds : List D) (G : DH) (R : DK) (EX : DX) (h : sd__law_alike (k + 1) ds G R EX) : b__law_alike k (endsD (frg R) EX) (startD N__law_alike ds) G := by
  obtain ⟨x, y, t, rfl, rx, ry, hd, hl, q⟩ := h
  show b__law_alike k (endsD (frg R) EX) [some x, some y, none] G
  have tx := rx.ty
  have ty := ry.ty
  have q' : frg R (.bl true) G := frg_of q
  have skN : t ≠ .none → ∀ {u A : DSt}, u (endsD (frg R) EX) [some x, some y, none] G → sSeq (sIf (dTest (dOp dIsN (dVar 1) (dC .non))) A sNext) u (endsD (frg R) EX) [some x, some y, none] G := fun n u A h => if_skip (fun R' h' => by
    simp only [dTest, dOp, dVar, List.getElem?_cons_zero, List.getElem?_cons_succ, dC, dIsN, ry.nonN n, blD_bl]
    exact h') h
  have sk : ∀ {T tt : String}, tyD G y = some tt → kitB tt T = some false → ∀ {u A : DSt}, u (endsD (frg R) EX) [some x, some y, none] G → sSeq (sIf (dTest (dCB dIsi (dCons (dVar 1) (dCons (dC (.ty T)) dNil)))) A sNext) u (endsD (frg R) EX) [some x, some y, none] G := fun h e u A h2 => if_skip (fun R' h' => tst_isi rfl h e h') h2
  have tk : ∀ {T tt : String}, tyD G y = some tt → kitB tt T = some true → ∀ {u A : DSt}, A { endsD (frg R) EX with nx := u (endsD (frg R) EX) } [some x, some y, none] G → sSeq (sIf (dTest (dCB dIsi (dCons (dVar 1) (dCons (dC (.ty T)) dNil)))) A sNext) u (endsD (frg R) EX) [some x, some y, none] G := fun h e u A h2 => if_take (fun R' h' => tst_isi rfl h e h') h2
  unfold b__law_alike
  cases t with
  | none =>
    cases rx
    cases ry
    refine if_take (fun R' h' => h') ?_
    exact q'
  | bool b =>
    dsimp only at tx ty
    refine skN (by intro h; cases h) (tk ty (by decide +kernel) ?_)
    unfold sRet dAndV
    refine val_isi rfl tx (b := true) (by decide +kernel) ?_
    rw [blD_bl, if_pos rfl]
    cases rx
    cases ry
    simp only [dOp, dVar, List.getElem?_cons_zero, List.getElem?_cons_succ, dEq_bl, decide_true]
    exact q'
  | int i =>
    dsimp only at tx ty
    refine skN (by intro h; cases h) (sk ty (by decide +kernel) (tk ty (by decide +kernel) ?_))
    unfold sRet dAndV
    refine val_isi rfl tx (b := true) (by decide +kernel) ?_
    rw [blD_bl, if_pos rfl]
    unfold dNotV
    refine val_isi rfl tx (b := false) (by decide +kernel) ?_
    rw [blD_bl, blD_bl, Bool.not_false, if_pos rfl]
    cases rx
    cases ry
    simp only [dOp, dVar, List.getElem?_cons_zero, List.getElem?_cons_succ, dEq_int, decide_true]
    exact q'
  | str z =>
    dsimp only at tx ty
    refine skN (by intro h; cases h) (sk ty (by decide +kernel) (sk ty (by decide +kernel) (tk ty (by decide +kernel) ?_)))
    unfold sRet dAndV
    refine val_isi rfl tx (b := true) (by decide +kernel) ?_
    rw [blD_bl, if_pos rfl]
    cases rx
    cases ry
    simp only [dOp, dVar, List.getElem?_cons_zero, List.getElem?_cons_succ, dEq_str, decide_true]
    exact q'
  | tuple ts =>
    dsimp only at tx ty
    cases rx with
    | tup ex rx =>
      cases ry with
      | tup ey ry =>
        refine skN (by intro h; cases h) (sk ty (by decide +kernel) (sk ty (by decide +kernel) (sk ty (by decide +kernel) (if_skip (fun R' h' => ?_) (if_skip (fun R' h' => ?_) ?_)))))
        · unfold dOr
          refine ne_isi tx ty (b := true) (by decide +kernel) ?_
          rw [if_neg Bool.false_ne_true]
          exact ne_isi tx ty (b := false) (by decide +kernel) h'
        · exact ne_len (seq_tl ex) (seq_tl ey) (rx.len.trans ry.len.symm) h'
        · exact pure_seq (seq_tl ex) (seq_tl ey) rx ry (by rw [PyData.depth] at hd; exact hd) (by rw [lean] at hl; exact of_decide_eq_true (Bool.and_eq_true_iff.mp hl).1) (by rw [lean] at hl; exact (Bool.and_eq_true_iff.mp hl).2) q [some x, some y, none] rfl rfl rfl (fun G' s => ⟨seq_tl ex, seq_tl ey⟩)
  | list ts =>
    dsimp only at tx ty
    have hs : ∀ {z : D}, Rdd G z (.list ts) → ∃ l, seqOf G z = some l ∧ RddL G l ts ∧ ∀ G', Sub G G' → seqOf G' z = some l := fun {z} h => by
      cases h with
      | rol r => exact ⟨_, rfl, r, fun _ _ => rfl⟩
      | lst e r =>
        refine ⟨_, ?_, r, fun G' s => ?_⟩
        · unfold seqOf
          dsimp only
          rw [e]
        · unfold seqOf
          dsimp only
          rw [s _ _ e]
    obtain ⟨lx, ex, rx', ux⟩ := hs rx
    obtain ⟨ly, ey, ry', uy⟩ := hs ry
    refine skN (by intro h; cases h) (sk ty (by decide +kernel) (sk ty (by decide +kernel) (sk ty (by decide +kernel) (if_skip (fun R' h' => ?_) (if_skip (fun R' h' => ?_) ?_)))))
    · unfold dOr
      refine ne_isi tx ty (b := false) (by decide +kernel) ?_
      rw [if_neg Bool.false_ne_true]
      exact ne_isi tx ty (b := true) (by decide +kernel) h'
    · exact ne_len ex ey (rx'.len.trans ry'.len.symm) h'
    · exact pure_seq ex ey rx' ry' (by rw [PyData.depth] at hd; exact hd) (by rw [lean] at hl; exact of_decide_eq_true (Bool.and_eq_true_iff.mp hl).1) (by rw [lean] at hl; exact (Bool.and_eq_true_iff.mp hl).2) q [some x, some y, none] rfl rfl rfl (fun G' s => ⟨ux G' s, uy G' s⟩)
  | dict _ => cases rx
end Cc
/-! ### small facts of readings -/
namespace Cc
open PySem PySem.Spec PyProof.Rows L2
open PySem.W (EachIs AllAlike Sortable dataLe)
theorem sub_put {G G' : DH} {a : Addr} {c : C} (s : Sub G G') (h : G a = none) : Sub G (Cc.updD G' a c) := fun b u e => by
  have ne : b ≠ a := fun z => by subst z; rw [h] at e; cases e
  rw [updD_ne ne]
  exact s b u e
theorem Sub.fresh {G G' : DH} {a : Addr} (s : Sub G G') (h : G' a = none) : G a = none := by
  cases e : G a with
  | none => rfl
  | some c =>
    rw [s _ _ e] at h
    cases h
theorem keep_upd {G : DH} {a b : Addr} {c u : C} (h : G b = some u) (n : G a = none) : updD G a c b = some u := Sub.new n _ _ h
theorem iSq_cell {i : Nat} {δ : DS} {G : DH} {RR : List D → (DH → Prop) → DH → Prop} {EX : DX} {a : Addr} {l : List D} (hx : δ[i]? = some (some (.ref a))) (e : G a = some (.lst l)) (q : RR l (fun G => G a = some (.lst l)) G) : iSq (dVar i) δ G RR EX := by
  unfold iSq dVar
  rw [hx]
  exact ⟨l, e, q⟩
theorem each_app {α β : Type} {P : α → β → Prop} : ∀ {as as' : List α} {bs bs' : List β}, EachIs P as bs → EachIs P as' bs' → EachIs P (as ++ as') (bs ++ bs')
  | _, _, _, _, .nil, h => h
  | _, _, _, _, .cons h t, h' => .cons h (each_app t h')
theorem each_nil {α β : Type} {P : α → β → Prop} {bs : List β} (h : EachIs P [] bs) : bs = [] := by cases h; rfl
theorem each_cons {α β : Type} {P : α → β → Prop} {a : α} {as : List α} {bs : List β} (h : EachIs P (a :: as) bs) : ∃ b bs', bs = b :: bs' ∧ P a b ∧ EachIs P as bs' := by
  cases h with
  | cons h t => exact ⟨_, _, rfl, h, t⟩
theorem each_mem {α β : Type} {P : α → β → Prop} : ∀ {as : List α} {bs : List β}, EachIs P as bs → ∀ a ∈ as, ∃ b ∈ bs, P a b
  | _, _, .nil, _, h => by cases h
  | _, _, .cons h t, a, hm => by
    rcases List.mem_cons.mp hm with rfl | hm
    · exact ⟨_, List.mem_cons_self, h⟩
    · obtain ⟨b, h1, h2⟩ := each_mem t a hm
      exact ⟨b, List.mem_cons_of_mem _ h1, h2⟩
theorem each_map_l {α β γ : Type} {P : γ → β → Prop} {f : α → γ} : ∀ {as : List α} {bs : List β}, EachIs (fun a b => P (f a) b) as bs → EachIs P (as.map f) bs
  | _, _, .nil => .nil
  | _, _, .cons h t => .cons h (each_map_l t)
theorem lay_map {α : Type} {f : α → PyData} : ∀ {l : List α}, (∀ x ∈ l, (f x).canLay0 = true) → PyData.canLayAll0 (l.map f) = true
  | [], _ => by simp [PyData.canLayAll0]
  | x :: xs, h => by
    rw [List.map_cons, PyData.canLayAll0, h x List.mem_cons_self, lay_map fun y hy => h y (List.mem_cons_of_mem _ hy)]
    rfl
theorem dep_map {α : Type} {f : α → PyData} {n : Nat} : ∀ {l : List α}, (∀ x ∈ l, (f x).depth ≤ n) → PyData.depthAll (l.map f) ≤ n
  | [], _ => by simp [PyData.depthAll]
  | x :: xs, h => by
    have h1 := h x List.mem_cons_self
    have h2 := dep_map (f := f) (l := xs) fun y hy => h y (List.mem_cons_of_mem _ hy)
    rw [List.map_cons, PyData.depthAll]
    omega
theorem lean_map {α : Type} {f : α → PyData} : ∀ {l : List α}, (∀ x ∈ l, lean (f x) = true) → leanAll (l.map f) = true
  | [], _ => by simp [leanAll]
  | x :: xs, h => by
    rw [List.map_cons, leanAll, h x List.mem_cons_self, lean_map fun y hy => h y (List.mem_cons_of_mem _ hy)]
    rfl
theorem rdd_map {α : Type} {G : DH} {f : α → D} {g : α → PyData} : ∀ {l : List α}, (∀ x ∈ l, Rdd G (f x) (g x)) → RddL G (l.map f) (l.map g)
  | [], _ => .nil
  | x :: xs, h => .cons (h x List.mem_cons_self) (rdd_map fun y hy => h y (List.mem_cons_of_mem _ hy))
theorem rdd_each {β : Type} {G : DH} {P : D → β → Prop} {g : β → PyData} (h : ∀ a b, P a b → Rdd G a (g b)) : ∀ {as : List D} {bs : List β}, EachIs P as bs → RddL G as (bs.map g)
  | _, _, .nil => .nil
  | _, _, .cons p t => .cons (h _ _ p) (rdd_each h t)
theorem shaped_by {t : PyData} (h : t.canLay0 = true) (d : t.depth ≤ 64) : SeqAt.shaped t = true := by
  unfold SeqAt.shaped
  rw [h, decide_eq_true d]
  rfl
theorem rangeD_zero {lo : Int} : rangeD lo 0 = [] := rfl
theorem rangeD_succ {lo : Int} {n : Nat} : rangeD lo (n + 1) = .int lo :: rangeD (lo + 1) n := by
  unfold rangeD
  rw [List.range_succ_eq_map, List.map_cons, List.map_map]
  congr 1
  · simp
  · refine List.map_congr_left fun i _ => ?_
    show D.int (lo + ((i + 1 : Nat) : Int)) = D.int (lo + 1 + (i : Int))
    congr 1
    omega
theorem sortD_map {α : Type} {f : α → D} {g : α → PyData} (l : List α) : sortD (l.map f) (l.map g) = (l.mergeSort (dataLe false g)).map f := by
  unfold sortD
  have e : (l.map f).zip (l.map g) = l.map fun x => (f x, g x) := by
    rw [List.zip_map']
  rw [e, ← List.map_mergeSort (r := dataLe false g) (s := dataLe false Prod.snd) (f := fun x => (f x, g x)) (l := l) (fun a _ b _ => rfl), List.map_map]
  rfl
theorem lst_of {G : DH} {a : Addr} {l : List D} (h : G a = some (.lst l)) : lstOf G (.ref a) = some l := by
  unfold lstOf
  dsimp only
  rw [h]
/-- sorted(a list of data) -/
theorem sorted_map {α : Type} {f : α → D} {g : α → PyData} {l : List α} {G : DH} {a : Addr} {R : DK} (h : G a = some (.lst (l.map f))) (hr : ∀ x ∈ l, Rdd G (f x) (g x)) (hal : ∀ x y, PySem.W.alike (g x) (g y) = true) (hk : Sortable (l.map g)) (hd : ∀ x ∈ l, (g x).depth ≤ 40) (hl : l.length ≤ sizeLine)
    (q : ∀ p, G p = none → R (.ref p) (updD G p (.lst ((l.mergeSort (dataLe false g)).map f)))) : dSorted [.ref a] G R :=
  ⟨l.map f, l.map g, lst_of h, rdd_map hr, AllAlike.of fun x y => hal x y, hk, fun t ht => by
    obtain ⟨x, hx, rfl⟩ := List.mem_map.mp ht
    exact hd x hx, by rw [List.length_map]; exact hl, fun p hp => by rw [sortD_map]; exact q p hp⟩
theorem atI_mem {α : Type} {l : List α} {i : Int} (h0 : 0 ≤ i) (h1 : i < l.length) : ∃ d ∈ l, L2.atI l i = some d := by
  have hi : i.toNat < l.length := by omega
  refine ⟨l[i.toNat], List.getElem_mem hi, ?_⟩
  unfold L2.atI L2.ixN
  rw [if_pos h0, if_pos h1]
  exact List.getElem?_eq_getElem hi
end Cc
/-! ### the end: facts of the top, the law's promise -/
namespace Cc
open PySem PySem.Spec PyProof.Rows L2
def sdLaw : SpD := fun ds G R _ => ∃ x ns, ds = [x] ∧ seqI G x ns ∧ ns.length ≤ 63 ∧ ∀ G', R (.bl true) G'
theorem dvl_ints {K : KT} {H : Hp} : ∀ ns : List Int, DvL K H (ns.map V.int) (ns.map D.int)
  | [] => .nil
  | n :: ns => .cons (.int n) (dvl_ints ns)
theorem sdLaw_end {K : PySem.W.Frag} {T : List (Addr × Str)} {cs : List (Addr × Addr)} (hT : ∀ p ∈ T, ∃ q ∈ cs, q.2 = p.1) {H : Hp} {a : Addr} {ns : List Int} (hn : ns.length ≤ 63) (hc : ∀ p ∈ cs, H p.2 = some (.tbl #[])) (hs : SqL K H a (ns.map V.int)) :
    upF (K, T) sdLaw [.ref a] H (fun v _ => v = .bl true) fun _ _ _ => False := by
  have tabs : LamX.Tabs T H := fun p hp => by
    obtain ⟨q, hq, e⟩ := hT p hp
    exact LamX.TabS.nil (by rw [← e]; exact hc q hq)
  have key : ∀ (x : D) (G : DH), Dv (K, T) H (.ref a) x → HRel (K, T) G H → seqI G x ns → upF (K, T) sdLaw [.ref a] H (fun v _ => v = .bl true) fun _ _ _ => False := fun x G d hr s =>
    ⟨[x], G, fun d _ => d = .bl true, fun _ _ _ => False, .cons d .nil, hr, ⟨x, ns, rfl, s, hn, fun _ => rfl⟩, fun v H' d G' _ _ r e => by
      subst e
      cases r
      rfl, fun _ _ _ _ _ _ h => h⟩
  rcases hs with (hs | ⟨o, hs⟩) | hs
  · refine key (.ref a) (updD (fun _ => none) a (.lst (ns.map D.int))) (.ref a) ⟨fun b c e => ?_, tabs⟩ (.inr ⟨a, rfl, updD_same⟩)
    by_cases hb : b = a
    · subst hb
      rw [updD_same] at e
      cases e
      exact ⟨_, hs, dvl_ints ns⟩
    · rw [updD_ne hb] at e
      cases e
  · exact key (.rol (ns.map D.int)) (fun _ => none) (.rol ⟨o, hs⟩ (dvl_ints ns)) ⟨(fun b c e => nomatch e), tabs⟩ (.inl (.inl rfl))
  · exact key (.wol (ns.map D.int)) (fun _ => none) (.wol (.inr hs) (dvl_ints ns)) ⟨(fun b c e => nomatch e), tabs⟩ (.inl (.inr rfl))
theorem cx_end {P : Program} {w : World} {H : Hp} {s : Shared} {e : Value} {s' : Shared} : L2N.CX P w [] H s (fun _ _ _ => False) e s' → False := fun ⟨_, _, _, _, _, _, _, _, _, _, _, _, h⟩ => h
section
variable {P : Program} {w : World} {K : PySem.W.Frag} {T : List (Addr × Str)} {cv : Value → Prop} {mg : Str → Option Value} {base h : Heap} {N ps : List Str} {x : Str} {k : Nat} {sb : DSt} {sd : SpD} {fa : List He.Fa} {fn : List He.DefD} {d : He.DefD}
theorem defAt (c : He.SaysD fa fn K) (hd : d ∈ fn) (h1 : d.dfl = []) (h2 : d.kwd = []) : ∃ fd, FunD K d.name d.qual d.params d.body d.scope [] [] (He.fAd K d.at_) fd ∧ fd.code = .ref (He.codeOf K d.at_) := by
  obtain ⟨fd, F⟩ := c.defs hd
  have e1 : d.dvs K = [] := by unfold He.DefD.dvs; rw [h1]; rfl
  have e2 : d.kws K = [] := by unfold He.DefD.kws; rw [h2]; rfl
  rw [e1, e2] at F
  refine ⟨fd, F, ?_⟩
  obtain ⟨oc, od, dV, kV, doc, pm, an, cdv, ct, osl, rfl, lk, hcd, _, _⟩ := F.ex
  obtain ⟨cc, e⟩ := He.codeIn_ref hcd
  subst e
  rw [He.codeOf_eq lk rfl]
theorem mkFn (X : K.In h) (G : h.Ns mainGlobals mg) (c : He.SaysD fa fn K) (hd : d ∈ fn) (hx : d.at_ = (x, none)) (h1 : d.dfl = []) (h2 : d.kwd = []) (hg : He.Fa.glo x ∈ fa) (S : FnScope N ps d.scope) (hcv : cv (.ref (He.codeOf K (x, none))))
    (len : ∀ ds G R EX, sd ds G R EX → ds.length = ps.length) (B : BodyD P w K T cv mg base N d.qual d.scope d.body k sb) (hp : ∀ ds G R EX, sd ds G R EX → sb (endsD (frg R) EX) (startD N ds) G)
    (hb : ∀ (kV doc pm : Value) (an : Option Addr) (cdv ct : Value) (us : List Value), us.length = ps.length → bindArgs (PySem.W.fnOf d.name d.qual d.params d.body d.scope .none kV doc pm an cdv ct) ⟨us, []⟩ = pure (ps.zip us)) :
    Fn P w (K, T) mg base x (k + 1) ps sd := by
  obtain ⟨fd, F, e⟩ := defAt c hd h1 h2
  rw [hx] at F e
  exact ⟨_, fd, okF F S (by rw [e]; exact hcv) len B hp, He.glo_ok X G (c.facts hg), F.kp, F.bindsN hb⟩
theorem glo_str (X : K.In h) (G : h.Ns mainGlobals mg) {x z : Str} (c : (He.Fa.str x z).ok K = true) : GloC K mg x (.str z) := by
  obtain ⟨t, e⟩ := He.str_ok X G c
  exact ⟨.str z, _, e, ⟨t, rfl⟩, fun _ _ => .str z⟩
theorem glo_int (X : K.In h) (G : h.Ns mainGlobals mg) {x : Str} {i : Int} (c : (He.Fa.int x i).ok K = true) : GloC K mg x (.int i) := by
  obtain ⟨t, e⟩ := He.int_ok X G c
  exact ⟨.int i, _, e, ⟨t, rfl⟩, fun _ _ => .int i⟩
theorem glo_tup (X : K.In h) (G : h.Ns mainGlobals mg) {x : Str} (vs : List He.Dv) (l : List D) (c : (He.Fa.glo x).ok K = true) (t : He.tupB K x vs = true) (hv : ∀ T H, DvL (K, T) H (vs.map (He.Dv.v K)) l) : GloC K mg x (.tup l) :=
  ⟨.ref (He.ga K x), _, He.glo_ok X G c, rfl, fun T H => .tup (He.tupB_ok t H) (hv T H)⟩
end
/-- a promise of nothing -/
theorem mkFn0 {P : Program} {w : World} {K : PySem.W.Frag} {T : List (Addr × Str)} {mg : Str → Option Value} {base h : Heap} {ps : List Str} {x : Str} {k : Nat} {sd : SpD} {fa : List He.Fa} {fn : List He.DefD} {d : He.DefD} (X : K.In h) (G : h.Ns mainGlobals mg) (c : He.SaysD fa fn K) (hd : d ∈ fn) (hx : d.at_ = (x, none)) (h1 : d.dfl = []) (h2 : d.kwd = []) (hg : He.Fa.glo x ∈ fa) (no : ∀ ds G R EX, ¬ sd ds G R EX)
    (hb : ∀ (kV doc pm : Value) (an : Option Addr) (cdv ct : Value) (us : List Value), us.length = ps.length → bindArgs (PySem.W.fnOf d.name d.qual d.params d.body d.scope .none kV doc pm an cdv ct) ⟨us, []⟩ = pure (ps.zip us)) :
    Fn P w (K, T) mg base x k ps sd := by
  obtain ⟨fd, F, e⟩ := defAt c hd h1 h2
  rw [hx] at F e
  exact ⟨_, fd, ⟨fun vs H Q E ⟨ds, G, R, EX, _, _, h, _⟩ => (no _ _ _ _ h).elim, fun A outer s H args us vs Q E _ _ _ _ ⟨ds, G, R, EX, _, _, h, _⟩ => (no _ _ _ _ h).elim⟩, He.glo_ok X G (c.facts hg), F.kp, F.bindsN hb⟩
theorem pure_offF (ds : List D) (G : DH) (R : DK) (EX : DX) (h : sd__law_off ds G R EX) : b__law_off (endsD (frg R) EX) (startD N__law_off ds) G := by
  obtain ⟨a, m, l, e, h1, h2, h3, h4, q⟩ := h
  exact pure_off ds G (frg R) EX ⟨a, m, l, e, h1, h2, h3, h4, fun r l' a b c => frg_of (q r l' a b c)⟩
theorem len_off (ds : List D) (G : DH) (R : DK) (EX : DX) (h : sd__law_off ds G R EX) : ds.length = 2 := by
  obtain ⟨a, m, l, rfl, _⟩ := h
  rfl
theorem len_dice (ds : List D) (G : DH) (R : DK) (EX : DX) (h : sd__law_dice ds G R EX) : ds.length = 2 := by
  obtain ⟨a, m, l, rfl, _⟩ := h
  rfl
theorem len_alike (k : Nat) (ds : List D) (G : DH) (R : DK) (EX : DX) (h : sd__law_alike (k + 1) ds G R EX) : ds.length = 2 := by
  obtain ⟨a, m, l, rfl, _⟩ := h
  rfl
theorem len_law (ds : List D) (G : DH) (R : DK) (EX : DX) (h : sdLaw ds G R EX) : ds.length = 1 := by
  obtain ⟨a, m, rfl, _⟩ := h
  rfl
/-- the law's walk, from its promise at the head's heap -/
theorem law_at {l : PySem.W.OpenLaw} {P : Program} (hP : l.prog = P) {w : World} {K : PySem.W.Frag} {mg : Str → Option Value} {fa : List He.Fa} {fn : List He.DefD} {ts : List He.Tab} {tf : List He.Defn} {ex : PySem.W.Frag → Bool} {h : Heap} {fadr : Addr} {k : Nat} {x : Str} {T : List (Addr × Str)} {d : He.DefD}
    (X : K.In h) (Y : He.SaysX fa fn ts tf ex w h K) (G : h.Ns mainGlobals mg) (hm : mg "law" = some (.ref fadr)) (hd : d ∈ fn) (hx : d.at_ = (("law" : Str), none)) (h1 : d.dfl = []) (h2 : d.kwd = []) (hg : He.Fa.glo "law" ∈ fa)
    (hT : ∀ p ∈ T, ∃ q ∈ tf, (He.cT K q).2 = p.1)
    (hb : ∀ (kV doc pm : Value) (an : Option Addr) (cdv ct : Value) (us : List Value), us.length = 1 → bindArgs (PySem.W.fnOf d.name d.qual d.params d.body d.scope .none kV doc pm an cdv ct) ⟨us, []⟩ = pure ([x].zip us))
    (F : ∀ base : Heap, K.In base → base.Ns mainGlobals mg → (∀ q ∈ tf, LamX.TabB base mg (He.cT K q).1 (He.cT K q).2) → ∀ fd, FunD K d.name d.qual d.params d.body d.scope [] [] (He.ga K "law") fd → FnOk P w K mg base (L2N.CX P w) k (He.ga K "law") fd [x] (upF (K, T) sdLaw)) : LamX.LawAtS l w K (L2N.CX P w) k 63 x mg fadr h := by
  subst hP
  obtain ⟨fd, Fd, e⟩ := defAt Y.t.d hd h1 h2
  rw [hx] at Fd e
  have em := hm.symm.trans (He.glo_ok X G (Y.t.d.facts hg))
  cases em
  refine ⟨fd, tf.map (He.cT K), upF (K, T) sdLaw, fun p hp => ?_, fun p hp => ?_, fun p hp => ?_, fun s u => Fd.bindsA (ps := [x]) hb s [u] rfl, fun H a ns hn _ hc hs => sdLaw_end (cs := tf.map (He.cT K)) (fun p hp => ?_) hn hc hs, fun base Xb Gb TBs => ?_⟩
  · obtain ⟨q, hq, rfl⟩ := List.mem_map.mp hp
    exact Y.empty q hq
  · obtain ⟨q, hq, rfl⟩ := List.mem_map.mp hp
    exact Y.out q hq
  · obtain ⟨q, hq, rfl⟩ := List.mem_map.mp hp
    exact PySem.W.codeHd_of_K X (Y.hd q hq)
  · obtain ⟨q, hq, e⟩ := hT p hp
    exact ⟨_, List.mem_map.mpr ⟨q, hq, rfl⟩, e⟩
  · exact F base Xb Gb (fun q hq => TBs _ (List.mem_map.mpr ⟨q, hq, rfl⟩)) fd Fd
end Cc
/-! ### loops over lists while an exception is handled -/
namespace Cc
open PySem PySem.Spec PyProof.Rows L2 HotX
section
variable {prog : Program} {w : World} {A : Around} {E : Value → Shared → Prop} {s : Shared}
/-- the walked list has ended: the StopIteration bears the handled exception as its context -/
theorem lstEnd_hot {k lo x1 : Addr} {n : Nat} {vs : Array Value} {Q : Option Value → Shared → Prop} (hot : HotAt A x1 s.heap) (nk : x1 ≠ k) (hk : s.heap.IsListIter k lo n) (hlo : s.heap.IsList lo vs) (no : vs[n]? = none)
    (q : ∀ h2, (∀ b o, b ≠ k → s.heap.get? b = some o → h2.get? b = some o) → Q none { s with heap := h2 }) : wpAny (model prog w) A (pyNext (.ref k)) Q E s := by
  obtain ⟨ok, gk, ck, dk⟩ := id hk
  obtain ⟨ol, gl, cl, m, dl⟩ := hlo
  obtain ⟨ha, o1, f1, g1, d1, c1⟩ := hot
  have hty := hk.typeIs
  unfold pyNext
  refine wpAny_bind (wpAny_attempt (wpAny_callSpecial?_slot (name := Str.ofString "__next__") hty slot_listiter_next (wpAny_call_entry slot_listiter_next hty entry_listiter_next ?_ (args_listiter_next _))))
  show wpAny _ _ (field (.ref k) 0 >>= _) _ _ s
  refine wpAny_bind (wpAny_field gk dk (x := .ref lo) rfl ?_)
  show wpAny _ _ (if (Value.ref lo == Value.none) = true then _ else _) _ _ s
  rw [if_neg (show ¬ ((Value.ref lo == Value.none) = true) from Bool.false_ne_true)]
  show wpAny _ _ (field (.ref k) 1 >>= _) _ _ s
  refine wpAny_bind (wpAny_field gk dk (x := .int n 0) rfl ?_)
  show wpAny _ _ (seqItems? (.ref lo) >>= _) _ _ s
  refine wpAny_bind (wpAny_seqItems gl dl ?_)
  simp only [Int.toNat_natCast, no]
  refine wpAny_bind (wpAny_rule (wpAny_bind (wpAny_setField gk dk (by simp) ?_)))
  show wpAny _ _ (newExc (.type "StopIteration") [] >>= _) _ _ _
  refine wpAny_bind ?_
  simp only [newExc, newTuple]
  refine wpAny_bind (wpAny_newObj_type ?_ (by size_fits))
  refine wpAny_bind (m := firstArgMember _ _) (wpAny_of_eq (a := Value.none) (by first | rfl | (simp only [firstArgMember]; rfl)) (wpAny_newObj_type ?_ (by size_fits)))
  have g2 : (s.heap.update k (Obj.mapFields (·.setIfInBounds 0 .none))).get? x1 = some o1 := by
    first | (rw [Heap.get?_update_other _ _ (Ne.symm nk)]; exact g1) | (rw [Heap.get?_update_other _ _ nk]; exact g1)
  refine raiseNew_hot (x1 := x1) ⟨ha, o1, f1, Heap.get?_push_of_some _ (Heap.get?_push_of_some _ g2), d1, c1⟩ ?_ (Heap.get?_push_size _ rfl) rfl (by first | (simp; done) | (simp; omega) | (simp only [Array.size_append]; simp; omega)) ?_
  · exact Nat.ne_of_lt (Heap.lt_size (Heap.get?_push_of_some _ g2))
  · refine wpAny_bind (wpAny_isInstance (T := "StopIteration") (b := true) ⟨_, Heap.get?_update_self _ (Heap.get?_push_size _ rfl) rfl, rfl⟩ isSubtype_stop (wpAny_pure (q _ fun b o nb e => ?_)))
    have e2 : (s.heap.update k (Obj.mapFields (·.setIfInBounds 0 .none))).get? b = some o := by
      first | (rw [Heap.get?_update_other _ _ (Ne.symm nb)]; exact e) | (rw [Heap.get?_update_other _ _ nb]; exact e)
    rw [Heap.get?_update_other _ _ (Nat.ne_of_gt (Heap.lt_size (Heap.get?_push_of_some _ e2)))]
    exact Heap.get?_push_of_some _ (Heap.get?_push_of_some _ e2)
end
/-- the walk over the list at a (n items to come, the next one the i-th) while an exception is handled, the new list at D -/
def hgo (K : PySem.W.Frag) (a D : Addr) (g : TG) (te : TE) (vs : List Nat) (σ : L2.St) (k : Hp → Prop) : Nat → Nat → Hp → Prop
  | 0, i, H => (∃ xs, SqL K H a xs ∧ xs.length ≤ i) ∧ k H
  | n + 1, i, H => ∃ xs x, SqL K H a xs ∧ xs[i]? = some x ∧ g x (wipe σ vs) H fun σ2 H2 => wipe σ2 vs = wipe σ vs ∧ te σ2 H2 fun y H3 => ∃ acc, H3 D = some (.lst acc) ∧ acc.length < sizeLine ∧ hgo K a D g te vs σ k n (i + 1) (upd H3 D (.lst (acc ++ [y])))
def tHot (K : PySem.W.Frag) (ti : TE) (g : TG) (te : TE) (vs : List Nat) : TE := fun σ H Q => ti σ H fun x H1 => ∃ a n, x = .ref a ∧ (∃ xs, SqL K H1 a xs) ∧ ∀ D, H1 D = none → hgo K a D g te vs σ (fun H2 => Q (.ref D) H2) n 0 (upd H1 D (.lst []))
section
variable {X : Cx}
theorem pe_hot {elt tg iter : Expr} {scope : Scope} {own : List (Str × Nat)} {pos : Pos} {ti : TE} {g : TG} {te : TE} (hot : L2H.HotC X) (hN : X.N.Nodup) (hi : PE X iter ti) (ok : BlkOk X.N X.env.scope scope own)
    (hg : ∀ (s : Shared) (H : Hp) (C : Addr) (cl : List (Str × Addr)) (fp : List Addr), PG (X.blk s H scope (compEnvC scope cl C X.env) fp) tg g)
    (he : ∀ (s : Shared) (H : Hp) (C : Addr) (cl : List (Str × Addr)) (fp : List Addr), PE (X.blk s H scope (compEnvC scope cl C X.env) fp) elt te) (hs : ∀ x, foldedSetIterable iter X.env x = pure x := by intro _; rfl) :
    PE X (.ListComp elt [⟨tg, iter, [], 0⟩] scope pos) (tHot X.K ti g te (own.map (·.2))) := by
  refine ⟨fun pins s σ H Q I h => ?_⟩
  rw [eval_ListComp]
  have fr : ∀ y ∈ scope.names, y.2 = .free → ∃ c, X.env.cells.lookup y.1 = some c := fun y hy e => by
    rcases ok.free y hy e with z | z
    · exact I.ok.has _ (.inl z)
    · exact I.ok.has _ (.inr z)
  refine wpAny_comprehension_free (use := none) rfl hs (closure_ok fr) ok.kind (fun y hy e => by rw [ok.uniq y hy, e]) (thn (hi.run pins s σ H _ I h) fun v s1 ⟨x, H1, I1, r1, a, n0, ex, ⟨xs, hq⟩, q⟩ => ?_)
  subst ex
  cases r1
  obtain ⟨its, rv, pl, hz⟩ := I1.list hq
  -- the handled exception
  obtain ⟨p, ⟨hh, fs, d1, c1⟩, hp⟩ := hot
  obtain ⟨gp, np, _, _, _⟩ := I1.pin p (List.mem_append_left _ hp)
  have ltp := Heap.lt_size gp
  refine wpAny_pyIter_list pl.isList ?_
  obtain ⟨it, hit⟩ : ∃ it, s1.heap.objs.size = it := ⟨_, rfl⟩
  obtain ⟨s2, hs2⟩ : ∃ s2 : Shared, s2 = { s1 with heap := s1.heap.push { cls := .type "list_iterator", data := .fields #[.ref a, .int 0 0] } } := ⟨_, rfl⟩
  have I2 : Inv X pins σ H1 s2 := by rw [hs2]; exact I1.kept (t' := s1.toks) fun b o e => Heap.get?_push_of_some _ e
  have nit : H1 it = none := by rw [← hit]; exact I1.hok.fresh (Nat.le_refl _)
  have fit : FpOk X pins H1 it := by rw [← hit]; exact I1.fpOk (Nat.le_refl _) (I1.hok.fresh (Nat.le_refl _))
  have st2 : s2.heap.IsListIter it a 0 := by rw [hs2, ← hit]; exact ⟨_, Heap.get?_push_size _ rfl, rfl, rfl⟩
  have sz2 : s2.heap.objs.size = it + 1 := by rw [hs2, ← hit]; exact Heap.size_push _ _
  have gp2 : s2.heap.get? p.1 = some p.2 := by rw [hs2]; exact Heap.get?_push_of_some _ gp
  rw [hit]
  show wpAny _ _ (newList []) _ _ _
  rw [← hs2]
  refine wpAny_newObj_type (newEnv_comp ?_) (by show 0 ≤ sizeLine; decide)
  obtain ⟨D, hD⟩ : ∃ D, s2.heap.objs.size = D := ⟨_, rfl⟩
  have nD : H1 D = none := I2.hok.fresh (Nat.le_of_eq hD)
  have q := q D nD
  rw [hD]
  obtain ⟨s3, hs3⟩ : ∃ s3 : Shared, s3 = { s2 with heap := s2.heap.push { cls := .type "list", data := .seq ([] : List Value).toArray } } := ⟨_, rfl⟩
  have I3 : Inv X pins σ (upd H1 D (.lst [])) s3 := by
    rw [hs3]
    exact I2.laid (t' := s2.toks) (fun b o e => Heap.get?_push_of_some _ e) (Nat.le_of_eq hD) ⟨Nat.zero_le _, [], 0, .nil, by rw [← hD]; exact Heap.get?_push_size _ rfl⟩
  have sz3 : s3.heap.objs.size = it + 1 + 1 := by rw [hs3]; show (s2.heap.push _).objs.size = _; rw [Heap.size_push, sz2]
  have nDi : it ≠ D := by omega
  have lpi : p.1 < it := by rw [← hit]; exact ltp
  have lpD : p.1 < D := Nat.lt_trans lpi (by omega)
  have fp3 : ∀ b ∈ [it], FpOk X pins (upd H1 D (.lst [])) b ∧ b < s3.heap.objs.size := fun b hb => by
    have e : b = it := by simpa using hb
    subst e
    exact ⟨⟨by rw [upd_ne nDi]; exact fit.1, fit.2⟩, by omega⟩
  have st3 : s3.heap.IsListIter it a 0 := by
    obtain ⟨o, e, r⟩ := st2
    exact ⟨o, by rw [hs3]; exact Heap.get?_push_of_some _ e, r⟩
  have gp3 : s3.heap.get? p.1 = some p.2 := by rw [hs3]; exact Heap.get?_push_of_some _ gp2
  have np3 : upd H1 D (.lst []) p.1 = none := by
    rw [upd_ne (Nat.ne_of_lt lpD)]
    exact np
  have I4 := block_start I3 ok hN fp3
  have pg := hg s3 (upd H1 D (.lst [])) s3.heap.objs.size (cellsFrom (s3.heap.objs.size + 1) scope.names (cloFrom X.env.cells scope.names [])) [it]
  have pe := he s3 (upd H1 D (.lst [])) s3.heap.objs.size (cellsFrom (s3.heap.objs.size + 1) scope.names (cloFrom X.env.cells scope.names [])) [it]
  rw [← hs3]
  obtain ⟨H3, eH3⟩ : ∃ H3, upd H1 D (.lst []) = H3 := ⟨_, rfl⟩
  obtain ⟨L3, eL3⟩ : ∃ L3, s3.heap.objs.size = L3 := ⟨_, rfl⟩
  rw [eH3] at I3 I4 pg pe q np3 fp3
  rw [eL3] at I4 pg pe
  obtain ⟨ce, ece⟩ : ∃ ce, compEnvC scope (cellsFrom (L3 + 1) scope.names (cloFrom X.env.cells scope.names [])) L3 X.env = ce := ⟨_, rfl⟩
  obtain ⟨s4, es4⟩ : ∃ s4 : Shared, { s3 with heap := pushCells (s3.heap.push { cls := .type "dict", data := .dict #[] }) scope.names } = s4 := ⟨_, rfl⟩
  have cl : ce.locals = L3 := by rw [← ece]; rfl
  show codeAny _ _ (.compStart (.ListComp elt [⟨tg, iter, [], 0⟩] scope pos) 0 (.ref it) (.ref D) (compEnvC scope (cellsFrom (s3.heap.objs.size + 1) scope.names (cloFrom X.env.cells scope.names [])) s3.heap.objs.size X.env)) (compPost (model X.prog X.w) X.A X.xe none (EP X pins σ Q) (.ref D) s3.heap.objs.size) { s3 with heap := pushCells (s3.heap.push { cls := .type "dict", data := .dict #[] }) scope.names }
  rw [eL3, ece, es4]
  rw [ece] at I4 pg pe
  rw [es4] at I4
  have kp4 : ∀ b o, s3.heap.get? b = some o → s4.heap.get? b = some o := fun b o e => by rw [← es4]; exact pushCells_keeps _ _ _ _ (Heap.get?_push_of_some _ e)
  have st4 : s4.heap.IsListIter it a 0 := by
    obtain ⟨o, e, r⟩ := st3
    exact ⟨o, kp4 _ _ e, r⟩
  -- the handled exception, at any state of the block
  have hotAt : ∀ {σ' : L2.St} {H' : Hp} {pi : List (Addr × Obj)} {s' : Shared}, Inv (X.blk s3 H3 scope ce [it]) pi σ' H' s' → HotAt X.A p.1 s'.heap := fun {σ' H' pi s'} J => by
    obtain ⟨sl, e⟩ := J.base.any (show s3.heap.get? p.1 = some p.2 from gp3) np3 (by
      intro z
      have z' : p.1 = it := by simpa using (show p.1 ∈ [it] from z)
      exact Nat.ne_of_lt lpi z')
    exact ⟨hh, _, fs, e, d1, c1⟩
  have fpAt : ∀ {σ' : L2.St} {H' : Hp} {s' : Shared}, Inv (X.blk s3 H3 scope ce [it]) [] σ' H' s' → H' it = none → FpOk (X.blk s3 H3 scope ce [it]) [] H' it := fun {σ' H' s'} J n => by
    have mi : it ∈ (X.blk s3 H3 scope ce [it]).ex := List.mem_cons_self
    exact ⟨n, (J.ok.exf it mi).1, J.ok.exfs it mi, .inl mi, fun x c e => (J.ok.exf it mi).2 x c e, fun z hz => absurd (show z ∈ ([] : List (Addr × Obj)) ++ [] from hz) (by simp)⟩
  have loop : codeAny (model X.prog X.w) X.A (.compLoop (.ListComp elt [⟨tg, iter, [], 0⟩] scope pos) 0 (.ref it) (.ref D) ce) (compPost (model X.prog X.w) X.A X.xe none (EP X pins σ Q) (.ref D) L3) s4 := by
    refine compLoop_any (fun n s' => ∃ (i : Nat) (H' : Hp), Inv (X.blk s3 H3 scope ce [it]) [] (wipe σ (own.map (·.2))) H' s' ∧ s'.heap.IsListIter it a i ∧ H' it = none ∧ hgo X.K a D g te (own.map (·.2)) σ (fun H2 => Q (.ref D) H2) n i H') ?_ n0 ⟨0, H3, I4, st4, (fp3 it List.mem_cons_self).1.1, q⟩
    rintro n s5 ⟨i, H5, I5, st5, n5, q5⟩
    obtain ⟨f0, f1, f2, f3, f4, f5⟩ := fpAt I5 n5
    cases n with
    | succ n =>
      obtain ⟨xs5, x5, hq5, hx5, q5⟩ := q5
      obtain ⟨its5, rv5, pl5, _⟩ := I5.list hq5
      obtain ⟨u, hu, ru⟩ := rv5.get hx5
      refine wpAny_pyNext_list_item st5 pl5.isList (x := u) (by simpa using hu) fun h6 st6 sb => ?_
      have I6 : Inv (X.blk s3 H3 scope ce [it]) [] (wipe σ (own.map (·.2))) H5 { s5 with heap := h6 } := I5.turned (t' := s5.toks) (fun b o hb e => (sb.2 b hb).trans e) f0 f1 f3 f4 f5
      obtain ⟨oi, ei, ci, di⟩ := id st6
      refine go_of (s := { s5 with heap := h6 }) ei ci di (by decide) ?_
      have I7 := I6.pinned (fp := [it]) (fun b hb => by
        have e : b = it := by simpa using hb
        subst e
        exact fpAt I6 n5) (fun b hb => by
        have e : b = it := by simpa using hb
        subst e
        exact ⟨oi, ei, fun v z => by rw [di] at z; cases z⟩)
      refine thnF (pg.run _ _ _ H5 _ u _ I7 ru q5) fun _ s8 ⟨σ8, H8, I8, hw8, q8⟩ => ?_
      refine wpAny_tests_nil ?_
      simp only [if_true]
      refine thnF (pe.run _ s8 σ8 H8 _ I8 q8) fun z s9 ⟨yv, H9, I9, r9, acc, hD9, hz9, nx⟩ => ?_
      refine app_ok (X := X.blk s3 H3 scope ce [it]) I9 hD9 hz9 r9 fun s10 I10 => ?_
      have pin10 := I10.pin (it, oi) (List.mem_append_right _ (List.mem_append_right _ (mem_pinsAt (fp := [it]) List.mem_cons_self ei)))
      have lw : (wipe σ (own.map (·.2))).length = σ8.length := by rw [← hw8, wipe_length]
      refine ⟨n, Nat.lt_succ_self n, i + 1, _, (I10.unpinned (pins := [])).weak lw (fun j v e => ?_), ⟨oi, pin10.1, ci, di⟩, pin10.2.1, nx⟩
      rw [← hw8] at e
      exact (wipe_some e).1
    | zero =>
      obtain ⟨⟨xs5, hq5, hl5⟩, q5⟩ := q5
      obtain ⟨its5, rv5, pl5, _⟩ := I5.list hq5
      have l5 := rv5.length
      refine lstEnd_hot (hotAt I5) (Nat.ne_of_lt lpi) st5 pl5.isList (by simp; omega) fun h6 k6 => ?_
      have I6 : Inv (X.blk s3 H3 scope ce [it]) [] (wipe σ (own.map (·.2))) H5 { s5 with heap := h6 } := I5.turned (t' := s5.toks) (fun b o hb e => k6 b o hb e) f0 f1 f3 f4 f5
      have I7 : Inv X pins σ H5 { s5 with heap := h6 } := I3.call' (ch := [it]) I6.os I6.base I6.hok I6.bare fun b hb => ⟨(fp3 b hb).1.2.2.2.1, (fp3 b hb).1.2.1, (fp3 b hb).1.2.2.2.2.1, (fp3 b hb).1.2.2.2.2.2⟩
      have nC : H5 L3 = none := by
        have z : H5 ce.locals = none := I6.free
        rw [cl] at z
        exact z
      obtain ⟨m, hn, _⟩ := I6.loc
      have hn2 : h6.Ns ce.locals m := hn
      rw [cl] at hn2
      have fC := I3.fpOk (b := L3) (H' := H5) (Nat.le_of_eq eL3) nC
      obtain ⟨g0, g1, g2, g3, g4, g5⟩ := fC
      exact ⟨m, hn2, fun h7 sb => ⟨.ref D, H5, I7.turned (t' := s5.toks) (fun b o hb e => (sb.2 b hb).trans e) g0 g1 g3 g4 g5, rfl, q5⟩⟩
  exact codeAny_compStart_list loop (wpAny_pyIter_listiter st4 loop)
end
/-! the same on data -/
def dHot (da : DE) (g : DG) (te : DE) (vs : List Nat) : DE := fun δ G R EX => da δ G (fun d G1 => match d with
  | .ref a => ∃ l, G1 a = some (.lst l) ∧ ∀ p, G1 p = none → goLc (fun G2 => G2 a = some (.lst l)) p g dYes te (fun G2 => R (.ref p) G2) (wipeD δ vs) l (updD G1 p (.lst []))
  | _ => False) EX
theorem hgo_up {K : KT} {g0 : TG} {g : DG} {te : DE} {vs : List Nat} {σ : L2.St} {δ : DS} {H0 : Hp} {a p : Addr} {l0 : List D} {k : DH → Prop} {kk : Hp → Prop} (cg : CT vs g0) (lg : ∀ v σ H Q, upG K noE g v σ H Q → g0 v σ H Q) (sr : SRel K H0 σ δ)
    (hk : ∀ G H, Up H0 H → HRel K G H → k G → kk H) : ∀ (rest : List D) (i : Nat) (G : DH) (H : Hp), l0.drop i = rest → Up H0 H → HRel K G H → goLc (fun G2 => G2 a = some (.lst l0)) p g dYes te k (wipeD δ vs) rest G → hgo K.1 a p g0 (up K noE te) vs σ kk rest.length i H
  | [], i, G, H, e, u, hr, q => by
    obtain ⟨hG, q⟩ := q
    obtain ⟨xs, e1, r1⟩ := hr _ _ hG
    refine ⟨⟨xs, SqL.of e1, ?_⟩, hk G H u hr q⟩
    have := congrArg List.length e
    rw [List.length_drop, List.length_nil] at this
    rw [r1.length]
    omega
  | x :: rest, i, G, H, e, u, hr, q => by
    obtain ⟨hG, q⟩ := q
    obtain ⟨xs, e1, r1⟩ := hr _ _ hG
    have hx : l0[i]? = some x := by
      have := congrArg (fun z => z[0]?) e
      simpa using this
    have hd : l0.drop (i + 1) = rest := by
      rw [← List.drop_drop, e]
      rfl
    obtain ⟨v, e2, r2⟩ := r1.get hx
    have cw := cg v (wipe σ vs) H (fun σ3 H3 => up K noE te σ3 H3 fun y H4 => ∃ acc, H4 p = some (.lst acc) ∧ acc.length < sizeLine ∧ hgo K.1 a p g0 (up K noE te) vs σ kk rest.length (i + 1) (upd H4 p (.lst (acc ++ [y]))))
      (lg _ _ _ _ ⟨_, wipeD δ vs, G, _, noX, r2, (sr.up u).wipe vs, hr, q, fun σ3 H3 δ3 G3 u3 s3 h3 q3 => ?_, CloX.no⟩)
    · rw [wipe_wipe] at cw
      exact ⟨xs, v, SqL.of e1, e2, cw⟩
    · have q3 : (if true = true then te δ3 G3 (fun y G4 => ∃ acc, G4 p = some (.lst acc) ∧ acc.length < sizeLine ∧ goLc (fun G2 => G2 a = some (.lst l0)) p g dYes te k (wipeD δ vs) rest (updD G4 p (.lst (acc ++ [y])))) noX else goLc (fun G2 => G2 a = some (.lst l0)) p g dYes te k (wipeD δ vs) rest G3) := q3
      rw [if_pos rfl] at q3
      refine ⟨δ3, G3, _, noX, s3, h3, q3, fun y H4 dy G4 u4 h4 r4 q4 => ?_, CloX.no⟩
      obtain ⟨acc, ea, hl, q4⟩ := q4
      obtain ⟨ys, ey, ry⟩ := h4 _ _ ea
      have uw : Up H4 (upd H4 p (.lst (ys ++ [y]))) := Up.put ey trivial
      exact ⟨ys, ey, by rw [ry.length]; exact hl, hgo_up cg lg sr hk rest (i + 1) _ _ hd ((u.trans (u3.trans u4)).trans uw) (h4.put (c := .lst (acc ++ [dy])) ey trivial ⟨_, upd_same, (ry.up uw).append (.cons (r4.up uw) .nil)⟩) q4⟩
section
variable {X : Cx} {E : EK}
theorem pd_hot {elt tg iter : Expr} {scope : Scope} {own : List (Str × Nat)} {pos : Pos} {de te : DE} {g : DG} (hot : L2H.HotC X) (hN : X.N.Nodup) (hi : PD X E iter de) (ok : BlkOk X.N X.env.scope scope own)
    (B : BlkP X E scope (own.map (·.2)) tg elt [] g dYes te) (hs : ∀ x, foldedSetIterable iter X.env x = pure x := by intro _; rfl) : PD X E (.ListComp elt [⟨tg, iter, [], 0⟩] scope pos) (dHot de g te (own.map (·.2))) := by
  obtain ⟨g0, c0, l0, p0⟩ := B.g
  refine ⟨imE (pe_hot (te := up (kt X E) noE te) hot hN hi.pe ok p0 (fun s H C cl fp => (B.e s H C cl fp).pe) hs) fun σ H Q ⟨δ, G, R, EX, sr, hr, h, cr, cx⟩ => ⟨δ, G, _, EX, sr, hr, h, fun v H1 d G1 u1 h1 r1 q1 => ?_, cx⟩⟩
  dsimp only at q1
  split at q1
  · rename_i a
    cases r1
    obtain ⟨l, e, q1⟩ := q1
    obtain ⟨xs, e1, _⟩ := h1 _ _ e
    refine ⟨a, l.length, rfl, ⟨xs, SqL.of e1⟩, fun D hD => ?_⟩
    have un : Up H1 (upd H1 D (.lst [])) := Up.new hD
    exact hgo_up c0 l0 (sr.up u1) (fun G2 H2 u2 h2 q2 => cr _ _ _ _ (u1.trans u2) h2 (.ref D) q2) l 0 _ _ (by simp) un (h1.new (c := .lst []) hD ⟨[], upd_same, .nil⟩) (q1 D (h1.none hD))
  · exact False.elim q1
end
end Cc
/-! ### a lambda that is handed to a def and called there -/
namespace Cc
open PySem PySem.Spec PyProof.Rows L2
open LamX (LamS CodeO lamEnv lamCx)
/-- the context of a handed lambda's body; what it lets out has no context of its own -/
abbrev lamC (X : Cx) (A : Around) (outer : List Env) (s : Shared) (H : Hp) (E : XK) (scope : Scope) (f c' : Addr) : Cx :=
  (lamCx X A outer s H E scope f c').tr [] fun e s' => wpAny (model X.prog X.w) (A.deeper (lamEnv X scope s.heap.objs.size f c')) (leaving (lamEnv X scope s.heap.objs.size f c') e) (fun _ s2 => L2N.CX X.prog X.w outer H s E e s2) (fun e2 s2 => L2N.CX X.prog X.w outer H s E e2 s2) s'
section
variable {X : Cx} {pins : List (Addr × Obj)} {σ : L2.St} {H : Hp} {s : Shared}
/-- x(), in the def that was given the lambda -/
theorem pe_thunk {Eg : XK} {Ng : List Str} {qg : Str} {sg : Scope} {g f c' : Addr} {cdg pm ctv : Value} {params : Arguments} {body : Expr} {scope : Scope} {k i : Nat} {a : Str} {pn : List (Addr × Obj)} {xe : Value → Shared → Prop} {W : WX} {tl : XK → TE} {p1 p2 : Pos}
    (I : Inv X pins σ H s) (L : LamS X.env.scope scope) (hf : s.heap.get? f = some (PySem.W.kla_obj "<lambda>" (X.env.qual ++ "<lambda>") params body scope (cloFrom X.env.cells scope.names []) pm c' ctv)) (hfn : H f = none) (hfr : f ∉ frs X.stack)
    (hbind : bindArgs (PySem.W.kla_fn "<lambda>" (X.env.qual ++ "<lambda>") params body scope (cloFrom X.env.cells scope.names []) pm (.ref c') ctv) ⟨[], []⟩ = pure [])
    (tk : L2N.Takes ((cxOf (L2N.CX X.prog X.w) X.prog X.w X.K X.mg X.base Ng qg sg g cdg X.A X.stack s H Eg).tr pn xe) W) (hr : Room (k + 1) (X.A.deeper (envOfC qg sg s.heap.objs.size g cdg)))
    (hbody : ∀ (A : Around) (outer : List Env) (s : Shared) (H : Hp) (E : XK), Room k (A.deeper (lamEnv X scope s.heap.objs.size f c')) → PE (lamC X A outer s H E scope f c') body (tl E))
    (hN : Ng[i]? = some a) (hv : Vis sg a) (hd : (a == ("__debug__" : Str)) = false := by decide) (hcd : (a == ("__classdict__" : Str)) = false := by decide) :
    PE ((cxOf (L2N.CX X.prog X.w) X.prog X.w X.K X.mg X.base Ng qg sg g cdg X.A X.stack s H Eg).tr pn xe) (.Call (.Name a p1) [] [] p2)
      (fun σZ HZ Q => σZ[i]? = some (some (.ref f)) ∧ HZ c' = some (CodeO c' (X.env.qual ++ "<lambda>")) ∧ ∃ Ech : XK, (∀ cls d H', Ech cls d H' → W cls d σZ H') ∧ tl Ech σ HZ Q) := by
  refine ⟨fun pz sz σz Hz Q Iz ⟨h1, h2, Ech, hW, h3⟩ => wpAny_Call_Name_kw (thn ((pe_var (pos := p1) (i := i) hN hv hd hcd).run pz sz σz Hz (fun v H1 => v = .ref f ∧ H1 = Hz) Iz ⟨.ref f, h1, rfl, rfl⟩) fun u s1 ⟨v, H1, I1, r1, ev, eH⟩ => ?_)⟩
  subst ev
  rw [eH] at I1
  obtain rfl : u = Value.ref f := r1
  have un : Un (frs X.stack) [] H Hz s.heap s1.heap := I1.base
  have gf : s1.heap.get? f = some (PySem.W.kla_obj "<lambda>" (X.env.qual ++ "<lambda>") params body scope (cloFrom X.env.cells scope.names []) pm c' ctv) := un.keep f _ hf hfn hfr (fun z => nomatch (show f ∈ ([] : List Addr) from z))
  refine PySem.W.callWith_F0 ⟨_, _, _, _, gf⟩ ?_
  obtain ⟨⟨oc, vs, t, hoc, hdc, hvc⟩, _, _⟩ := I1.hok c' _ h2
  have go : codeAny (model X.prog X.w) (X.A.deeper (envOfC qg sg s.heap.objs.size g cdg)) (.call (.ref f) ⟨[], []⟩) (CR (L2N.CX X.prog X.w) (envOfC qg sg s.heap.objs.size g cdg :: X.stack) X.prog X.w Hz s1 Q Ech) s1 := by
    refine PySem.W.kla_callFunE hr.depth gf rfl L.co L.gen rfl ⟨c', oc, vs, t, rfl, hoc, hdc, hvc⟩ ?_
    rw [hbind]
    refine wpAny_pure (wpAny_newFunctionEnv (fun y hy => (L.own y hy).2) (fun y hy => absurd hy (by simp)) (fun h₁ hns hsb => ⟨I1.nolimit.fresh _ hsb, ?_⟩) L.kind)
    have kp : ∀ b o, s1.heap.get? b = some o → h₁.get? b = some o := fun b o e => hsb.extBut b o (Nat.ne_of_lt (Heap.lt_size e)) (Heap.get?_push_of_some _ e)
    have J0 : Inv (lamCx X (X.A.deeper (envOfC qg sg s.heap.objs.size g cdg)) (envOfC qg sg s.heap.objs.size g cdg :: X.stack) s1 Hz Ech scope f c') [] σ Hz { s1 with heap := h₁, toks := s1.toks + ([] : List (Str × Value)).length } :=
      LamX.lam_start2 I L I1.env0 hr.hd un hns kp
    have J := J0.toTry fun e s' => wpAny (model X.prog X.w) ((X.A.deeper (envOfC qg sg s.heap.objs.size g cdg)).deeper (lamEnv X scope s1.heap.objs.size f c')) (leaving (lamEnv X scope s1.heap.objs.size f c') e) (fun _ s2 => L2N.CX X.prog X.w (envOfC qg sg s.heap.objs.size g cdg :: X.stack) Hz s1 Ech e s2) (fun e2 s2 => L2N.CX X.prog X.w (envOfC qg sg s.heap.objs.size g cdg :: X.stack) Hz s1 Ech e2 s2) s'
    show codeAny _ _ (.expr body (lamEnv X scope s1.heap.objs.size f c')) _ _
    refine PySem.W.kla_codeExpr (wpAny_mono ((hbody _ _ s1 Hz Ech (hr.deeper _)).run [] _ _ Hz Q J h3) (fun v s' ⟨w', H', J', rv, q⟩ => ⟨w', H', J'.os, J'.bare, J'.base, J'.hok, rv, q⟩) fun e s' hq => hq)
  refine wpAny_call (codeAny_mono go fun r s' hq => ?_)
  cases r with
  | error e => exact tk e s' (L2N.XE.of_call I1 (fun cls d H' z => hW cls d H' z) hq)
  | ok fl =>
    cases fl with
    | ret u => exact I1.after hq
    | next => exact False.elim hq
    | brk => exact False.elim hq
    | cont => exact False.elim hq
end
end Cc
/-! ### x(lambda: .., e2, e3) -/
namespace Cc
open PySem PySem.Spec PyProof.Rows L2
open LamX (LamS CodeO lamEnv lamCx TabB Tabs ExtN)
/-- an expression that leaves all as it is -/
structure Quiet (X : Cx) (e : Expr) (t : L2.St → V → Prop) : Prop where
  run : ∀ {pins : List (Addr × Obj)} {s : Shared} {σ : L2.St} {H : Hp} {v : V} {E : Value → Shared → Prop} {Q : Value → Shared → Prop}, Inv X pins σ H s → t σ v → (∀ u tk, RelV v u → Q u { s with toks := tk }) → wpAny (model X.prog X.w) X.A (eval e X.env) Q E s
section
variable {X : Cx}
theorem quiet_int {n : Int} {j pos} : Quiet X (.Constant (.int n) j pos) (fun _ v => v = .int n) := ⟨fun {pins s σ H v E Q} I h q => by
  subst h
  exact wpAny_Constant_int (q _ _ ⟨_, rfl⟩)⟩
theorem quiet_str {n : Str} {j pos} : Quiet X (.Constant (.str n) j pos) (fun _ v => v = .str n) := ⟨fun {pins s σ H v E Q} I h q => by
  subst h
  exact wpAny_Constant_str (q _ _ ⟨_, rfl⟩)⟩
theorem quiet_var {i : Nat} {x : Str} {pos : Pos} (hN : X.N[i]? = some x) (hv : Vis X.env.scope x) (hd : (x == ("__debug__" : Str)) = false := by decide) (hcd : (x == ("__classdict__" : Str)) = false := by decide) : Quiet X (.Name x pos) (fun σ v => σ[i]? = some (some v)) :=
  ⟨fun {pins s σ H v E Q} I h q => by
    obtain ⟨m, hn, hl⟩ := I.loc
    obtain ⟨u, r, l⟩ := hl i x v hN h hv
    have fin : Q u s := q u s.toks r
    rcases l with ⟨hk, hm⟩ | ⟨hk, c, hc, hcell⟩
    · exact wpAny_Name (wpAny_loadName_local I.ok.kind hk hn hm fin) hd
    · rcases hk with hk | hk
      · exact wpAny_Name (wpAny_loadName_cell I.ok.kind hk hc hcell fin) hd
      · exact wpAny_Name (wpAny_loadName_free I.ok.kind hk hc hcell fin hcd) hd⟩
/-- the context of the def that is given the lambda -/
abbrev gotC (X : Cx) (Ng : List Str) (qg : Str) (sg : Scope) (g : Addr) (cdg : Value) (s : Shared) (H : Hp) (E : XK) : Cx := cxOf (L2N.CX X.prog X.w) X.prog X.w X.K X.mg X.base Ng qg sg g cdg X.A X.stack s H E
/-- a() within that def: the lambda at f does tl -/
def ActT (f c' : Addr) (q : Str) (W : WX) (tl : XK → Hp → VK → Prop) : TE := fun σZ HZ Q => σZ[0]? = some (some (.ref f)) ∧ HZ c' = some (CodeO c' q) ∧ ∃ Ech : XK, (∀ cls d H', Ech cls d H' → W cls d σZ H') ∧ tl Ech HZ Q
/-- what that def promises of any lambda -/
def Given (X : Cx) (Ng ps : List Str) (qg a : Str) (sg : Scope) (g : Addr) (cdg : Value) (bg : List Stmt) (k : Nat) (q : Str) (sp : (XK → Hp → VK → Prop) → Sp) : Prop :=
  ∀ (f c' : Addr) (s : Shared) (H : Hp) (Q : VK) (E : XK) (vs : List V) (tl : XK → Hp → VK → Prop),
    (∀ (W : WX) (pn : List (Addr × Obj)) (xe : Value → Shared → Prop) (p1 p2 : Pos), L2N.Takes ((gotC X Ng qg sg g cdg s H E).tr pn xe) W → PE ((gotC X Ng qg sg g cdg s H E).tr pn xe) (.Call (.Name a p1) [] [] p2) (ActT f c' q W tl)) →
    Room k (X.A.deeper (envOfC qg sg s.heap.objs.size g cdg)) → H c' = some (CodeO c' q) → sp tl vs H Q E → ∃ t, PSs (gotC X Ng qg sg g cdg s H E) bg t ∧ t { nx := fun _ H' => Q .non H', rt := Q } (L2.start Ng (.ref f :: vs)) H
def tGive (T : List (Addr × Str)) (E : XK) (t2 t3 : L2.St → V → Prop) (sp : (XK → Hp → VK → Prop) → Sp) (t : XK → TE) : TE := fun σ H Q => Tabs T H ∧ ∃ v2 v3, t2 σ v2 ∧ t3 σ v3 ∧ ∀ H1, ExtN H H1 → Tabs T H1 → sp (fun E' H' Q' => t E' σ H' Q') [v2, v3] H1 Q E
theorem pe_give {T : List (Addr × Str)} {sp : (XK → Hp → VK → Prop) → Sp} {x a a2 a3 : Str} {g c P : Addr} {k : Nat} {pg : Arguments} {bg : List Stmt} {sg : Scope} {dV kV doc pm cdv ct oc : Value} {an od : Option Addr} {osl : Array (Option Value)} {Ng : List Str} {E : XK}
    {params : Arguments} {body e2 e3 : Expr} {scope : Scope} {t : XK → TE} {t2 t3 : L2.St → V → Prop} {p lpos pos : Pos} (hg : Gl X x) (hm : X.mg x = some (.ref g)) (hk : PySem.W.keepIn X.K (.ref g) = true)
    (lk : X.K.lookup g = some ⟨oc, od, .func (PySem.W.fnOf x x pg bg sg dV kV doc pm an cdv ct), osl⟩) (hcg : PySem.W.codeIn X.K cdv x = true) (hb : L2.Binds X.K (PySem.W.fnOf x x pg bg sg dV kV doc pm an cdv ct) [a, a2, a3] []) (Sg : FnScope Ng [a, a2, a3] sg) (hNg : Ng[0]? = some a) (hva : Vis sg a)
    (hG : Given X Ng [a, a2, a3] x a sg g cdv bg k (X.env.qual ++ "<lambda>") sp) (hx : Passes (L2N.CX X.prog X.w) X E) (q2 : Quiet X e2 t2) (q3 : Quiet X e3 t3)
    (TB : TabB X.base X.mg c P) (hcode : X.env.code = .ref c) (hmT : (P, X.env.qual ++ "<lambda>") ∈ T) (hu : ∀ p ∈ T, p.1 = P → p.2 = X.env.qual ++ "<lambda>") (hr : Room (k + 2) X.A) (L : LamS X.env.scope scope) (hdef : defaultsOf params X.env = ([], []))
    (hbind : ∀ (q : Str) (cl : List (Str × Addr)) (pm cv ctv : Value), bindArgs (PySem.W.kla_fn "<lambda>" q params body scope cl pm cv ctv) ⟨[], []⟩ = pure [])
    (hbody : ∀ (A : Around) (outer : List Env) (s : Shared) (H : Hp) (E : XK) (f c' : Addr), Room k (A.deeper (lamEnv X scope s.heap.objs.size f c')) → PE (lamC X A outer s H E scope f c') body (t E))
    (hdb : (x == ("__debug__" : Str)) = false := by decide) (hd : (a == ("__debug__" : Str)) = false := by decide) (hcd : (a == ("__classdict__" : Str)) = false := by decide)
    (hse : backTo pos (starEach [e2, e3] X.env) = [(false, eval e2 X.env), (false, eval e3 X.env)] := by rfl) :
    PE X (.Call (.Name x p) [.Lambda params body scope lpos, e2, e3] [] pos) (tGive T E t2 t3 sp t) := by
  refine ⟨fun pins s σ H Q I ⟨hT, v2, v3, h2, h3, h⟩ => ?_⟩
  refine wpAny_Call_Name_kw (ld_glob I hg hm ?_ hdb)
  refine PySem.W.callWith_K (h₀ := X.base) I.ok.mod.kin hk ?_ (by rfl) (by rw [hse]; rfl)
  show wpAny _ _ (spliced ((false, eval (.Lambda params body scope lpos) X.env) :: backTo pos (starEach [e2, e3] X.env))) _ _ s
  rw [hse]
  refine Calls.spliced_cons (LamX.lam_make2 I TB hcode hmT hu hT hdef (L.has I.ok) fun f c' pm' ctv H1 s1 I1 eN T1 hf hfn hfr hco => ?_)
  refine Calls.spliced_cons (q2.run I1 h2 fun u2 tk2 r2 => ?_)
  have I2 := I1.tok tk2
  refine Calls.spliced_cons (q3.run I2 h3 fun u3 tk3 r3 => ?_)
  have I3 : Inv X pins σ H1 { s1 with toks := tk3 } := I2.tok tk3
  refine Calls.spliced_nil ⟨I3.kIn, ?_⟩
  have rc : codeAny (model X.prog X.w) X.A (.call (.ref g) ⟨[.ref f, u2, u3], []⟩) (CR (L2N.CX X.prog X.w) X.stack X.prog X.w H1 { s1 with toks := tk3 } Q E) { s1 with toks := tk3 } := by
    refine LamX.run_ofS (N := Ng) (ps := [a, a2, a3]) (us := [.ref f, u2, u3]) (vs := [.ref f, v2, v3]) lk hcg Sg hr I3.env0 (hb _ [.ref f, u2, u3] I3.kIn rfl) (.cons rfl (.cons r2 (.cons r3 .nil))) rfl fun hr' => ?_
    exact hG f c' { s1 with toks := tk3 } H1 Q E [v2, v3] (fun E' H' Q' => t E' σ H' Q') (fun W pn xe p1 p2 tk => pe_thunk (i := 0) I3 L hf hfn hfr (hbind _ _ _ _ _) tk hr' (fun A outer s H E hr2 => hbody A outer s H E f c' hr2) hNg hva hd hcd) (hr'.mono (Nat.le_succ k)) hco (h H1 eN T1)
  refine wpAny_call (codeAny_mono rc fun r s2 hq => ?_)
  cases r with
  | error e => exact hx pins σ H1 _ e s2 I3 hq
  | ok fl =>
    cases fl with
    | ret u => exact I3.after hq
    | next => exact False.elim hq
    | brk => exact False.elim hq
    | cont => exact False.elim hq
end
end Cc
/-! ### isinstance(e, ..) in an except suite -/
namespace Cc
open PySem PySem.Spec PyProof.Rows L2
def isV : D → Option Value
  | .ref a => some (.ref a)
  | .ty n => some (.type n)
  | _ => none
theorem isV_of {K : KT} {H : Hp} {v : V} {d : D} {cv : Value} (h : Dv K H v d) (e : isV d = some cv) : ∀ u, RelV v u → u = cv := fun u r => by
  cases h <;> cases e <;> exact r
/-- isinstance(e, c): e stands at a, its class is C -/
def dIsE (K : PySem.W.Frag) (a C : Addr) : DC := fun xs G R => match xs with
  | [.ref x, c] => x = a ∧ ∃ cv b, isV c = some cv ∧ PySem.W.kitOne K (.ref C) cv = some b ∧ R (.bl b) G
  | _ => False
theorem cd_isE {X : Cx} {a C : Addr} {oe : Obj} {pn : List (Addr × Obj)} (hC : ExcC X.K C) (hz : Zc (.ref C) none oe) (hf : ∃ vs, oe.data = .fields vs) : CD (X.suite a ((a, oe) :: pn)) (.builtin "isinstance") (dIsE X.K a C) :=
  ⟨_, call_isE hC hz hf, fun T x H d G R Q hr r q cr => by
    unfold dIsE at q
    split at q
    · obtain ⟨rfl, cv, b, e1, e2, q⟩ := q
      cases r with
      | cons r1 r =>
        cases r with
        | cons r2 r =>
          cases r
          cases r1
          exact ⟨_, cv, b, rfl, isV_of r2 e1, e2, cr _ _ _ _ (Up.refl H) hr (.bl b) q⟩
    · exact False.elim q⟩
/-- the class's facts, as a Bool of what is looked at -/
def excCB (K : PySem.W.Frag) (C : Addr) : Bool := He.eqO (PySem.W.findIn K (.ref C) "__getattribute__") (some (some (.builtin "BaseException.__getattribute__"))) && (He.eqO (PySem.W.findIn K (.ref C) "__getattr__") (some none) && (decide (PySem.W.subIn K (.ref C) (.type "BaseException") = some true) &&
  (PySem.W.hasDictIn K C && (He.eqO (PySem.W.findIn K (.ref C) "__class__") (some (some (.builtin "object.__class__"))) && (He.eqO (PySem.W.specialIn K (.builtin "object.__class__") "__get__") (some (some (.builtin "getset_descriptor.__get__"))) &&
  (decide (PySem.W.takesIn K (.builtin "object.__class__") = some true) && decide (PySem.W.mroIn K C (.type "object") = some true)))))))
theorem excC_of {K : PySem.W.Frag} {C : Addr} (h : excCB K C = true) : ExcC K C := by
  unfold excCB at h
  simp only [Bool.and_eq_true] at h
  obtain ⟨h1, h2, h3, h4, h5, h6, h7, h8⟩ := h
  exact ⟨He.eqO_ok h1, He.eqO_ok h2, of_decide_eq_true h3, h4, He.eqO_ok h5, He.eqO_ok h6, of_decide_eq_true h7, of_decide_eq_true h8⟩
theorem pd_never {X : Cx} {E : EK} {e : Expr} : PD X E e (fun _ _ _ _ => False) := ⟨⟨fun pins s σ H Q I ⟨_, _, _, _, _, _, h, _⟩ => h.elim⟩⟩
theorem hot_suite {X : Cx} {a : Addr} {cls : Value} {d : Option Addr} {oe : Obj} {pn : List (Addr × Obj)} (hz : L2N.Zn cls d oe) (hf : ∃ vs, oe.data = .fields vs) : L2H.HotC (X.suite a ((a, oe) :: pn)) := by
  obtain ⟨vs, e⟩ := hf
  exact ⟨(a, oe), ⟨rfl, vs, e, hz.2.2 vs e⟩, List.mem_cons_self⟩
/-- what is kept of a state that only grows -/
def Grow (H H' : Hp) : Prop := ∀ b o, H b = some o → H' b = some o
end Cc
/-! ### the law's _law_refused(lambda: .., word, 0), on data -/
namespace Cc
open PySem PySem.Spec PyProof.Rows L2
open LamX (LamS CodeO lamEnv lamCx TabB Tabs ExtN)
/-- the def that is given the lambda promises: it answers True of a lambda that raises C -/
def spRef (K : KT) (w : Str) (C : Addr) (tl : XK → Hp → VK → Prop) : Sp := fun vs H Q _ => (∃ v, vs = [.str w, v]) ∧ ∀ Q' : VK,
  tl (fun cls o H' => cls = .ref C ∧ o = none ∧ ∃ G', HRel K G' H' ∧ ∀ G2 H2, Sub G' G2 → Up H' H2 → HRel K G2 H2 → Q (.bl true) H2) H Q'
def dRefuse (dt : DE) (C : Addr) : DE := fun δ G R _ => dt δ G (fun _ _ => False) (fun cls o G' => cls = .ref C ∧ o = none ∧ ∀ G2, Sub G' G2 → R (.bl true) G2)
section
variable {X : Cx} {E : EK}
theorem pd_refuse {w x a a2 a3 : Str} {g c P C : Addr} {k : Nat} {pg : Arguments} {bg : List Stmt} {sg : Scope} {dV kV doc pm cdv ct oc : Value} {an od : Option Addr} {osl : Array (Option Value)} {Ng : List Str}
    {params : Arguments} {body : Expr} {scope : Scope} {dt : DE} {n : Int} {j1 j2} {p lpos pos p2 p3 : Pos} (hg : Gl X x) (hm : X.mg x = some (.ref g)) (hk : PySem.W.keepIn X.K (.ref g) = true)
    (lk : X.K.lookup g = some ⟨oc, od, .func (PySem.W.fnOf x x pg bg sg dV kV doc pm an cdv ct), osl⟩) (hcg : PySem.W.codeIn X.K cdv x = true) (hb : L2.Binds X.K (PySem.W.fnOf x x pg bg sg dV kV doc pm an cdv ct) [a, a2, a3] []) (Sg : FnScope Ng [a, a2, a3] sg) (hNg : Ng[0]? = some a) (hva : Vis sg a)
    (hG : Given X Ng [a, a2, a3] x a sg g cdv bg k (X.env.qual ++ "<lambda>") (spRef (kt X E) w C)) (hx : Passes (L2N.CX X.prog X.w) X E.1)
    (TB : TabB X.base X.mg c P) (hcode : X.env.code = .ref c) (hmT : (P, X.env.qual ++ "<lambda>") ∈ E.2) (hu : ∀ p ∈ E.2, p.1 = P → p.2 = X.env.qual ++ "<lambda>") (hr : Room (k + 2) X.A) (L : LamS X.env.scope scope) (hdef : defaultsOf params X.env = ([], []))
    (hbind : ∀ (q : Str) (cl : List (Str × Addr)) (pm cv ctv : Value), bindArgs (PySem.W.kla_fn "<lambda>" q params body scope cl pm cv ctv) ⟨[], []⟩ = pure [])
    (hbody : ∀ (A : Around) (outer : List Env) (s : Shared) (H : Hp) (E' : XK) (f c' : Addr), Room k (A.deeper (lamEnv X scope s.heap.objs.size f c')) → PD (lamC X A outer s H E' scope f c') (E', E.2) body dt)
    (hdb : (x == ("__debug__" : Str)) = false := by decide) (hd : (a == ("__debug__" : Str)) = false := by decide) (hcd : (a == ("__classdict__" : Str)) = false := by decide)
    (hse : backTo pos (starEach [.Constant (.str w) j1 p2, .Constant (.int n) j2 p3] X.env) = [(false, eval (.Constant (.str w) j1 p2) X.env), (false, eval (.Constant (.int n) j2 p3) X.env)] := by rfl) :
    PD X E (.Call (.Name x p) [.Lambda params body scope lpos, .Constant (.str w) j1 p2, .Constant (.int n) j2 p3] [] pos) (dRefuse dt C) := by
  refine ⟨imE (pe_give (T := E.2) (E := E.1) (t := fun E' => up (kt X E) E' dt) (sp := spRef (kt X E) w C) hg hm hk lk hcg hb Sg hNg hva hG hx quiet_str quiet_int TB hcode hmT hu hr L hdef hbind (fun A outer s H E' f c' hr' => (hbody A outer s H E' f c' hr').pe) hdb hd hcd hse) fun σ H Q ⟨δ, G, R, EX, sr, hG0, h, cr, cx⟩ => ?_⟩
  refine ⟨hG0.t, .str w, .int n, rfl, rfl, fun H1 ex tb => ⟨⟨_, rfl⟩, fun Q' => ?_⟩⟩
  have u1 := extN_up ex
  refine ⟨δ, G, _, _, sr.up u1, extN_h hG0 ex tb, h, fun v H' d G' _ _ _ z => z.elim, fun cls o H' G' u h' ⟨e1, e2, z⟩ => ⟨e1, e2, G', h', fun G2 H2 s u2 h2 => cr _ _ _ _ ((u1.trans u).trans u2) h2 (.bl true) (z G2 s)⟩⟩
theorem tkL {A : Around} {outer : List Env} {s : Shared} {H : Hp} {E' : XK} {scope : Scope} {f c' : Addr} : L2N.Takes (lamC X A outer s H E' scope f c') (fun cls d _ H => E' cls d H) := L2N.takes_of rfl rfl rfl rfl
theorem psL {A : Around} {outer : List Env} {s : Shared} {H : Hp} {E' : XK} {scope : Scope} {f c' : Addr} : Passes (L2N.CX X.prog X.w) (lamC X A outer s H E' scope f c') E' := L2N.passes_call tkL fun _ _ _ _ h => h
/-- pd_refuse, the def told by the head -/
theorem pd_refuseF {w x a a2 a3 : Str} {g c P C : Addr} {k : Nat} {pg : Arguments} {bg : List Stmt} {sg : Scope} {fd : FuncData} {Ng : List Str}
    {params : Arguments} {body : Expr} {scope : Scope} {dt : DE} {n : Int} {j1 j2} {p lpos pos p2 p3 : Pos} (F : FunD X.K x x pg bg sg [] [] g fd) (hm : X.mg x = some (.ref g)) (Sg : FnScope Ng [a, a2, a3] sg)
    (hbg : ∀ (kV doc pm : Value) (an : Option Addr) (cdv ct : Value) (us : List Value), us.length = 3 → bindArgs (PySem.W.fnOf x x pg bg sg .none kV doc pm an cdv ct) ⟨us, []⟩ = pure (([a, a2, a3] : List Str).zip us))
    (hG : ∀ cdg : Value, Given X Ng [a, a2, a3] x a sg g cdg bg k (X.env.qual ++ "<lambda>") (spRef (kt X E) w C)) (hx : Passes (L2N.CX X.prog X.w) X E.1)
    (TB : TabB X.base X.mg c P) (hcode : X.env.code = .ref c) (hmT : (P, X.env.qual ++ "<lambda>") ∈ E.2) (hu : ∀ p ∈ E.2, p.1 = P → p.2 = X.env.qual ++ "<lambda>") (hr : Room (k + 2) X.A) (L : LamS X.env.scope scope) (hdef : defaultsOf params X.env = ([], []))
    (hbind : ∀ (q : Str) (cl : List (Str × Addr)) (pm cv ctv : Value), bindArgs (PySem.W.kla_fn "<lambda>" q params body scope cl pm cv ctv) ⟨[], []⟩ = pure [])
    (hbody : ∀ (A : Around) (outer : List Env) (s : Shared) (H : Hp) (E' : XK) (f c' : Addr), Room k (A.deeper (lamEnv X scope s.heap.objs.size f c')) → PD (lamC X A outer s H E' scope f c') (E', E.2) body dt)
    (hg : Gl X x := by rfl) (hNg : Ng[0]? = some a := by rfl) (hva : Vis sg a := by first | exact .inl rfl | exact .inr (.inl rfl)) (hdb : (x == ("__debug__" : Str)) = false := by decide) (hd : (a == ("__debug__" : Str)) = false := by decide) (hcd : (a == ("__classdict__" : Str)) = false := by decide)
    (hse : backTo pos (starEach [.Constant (.str w) j1 p2, .Constant (.int n) j2 p3] X.env) = [(false, eval (.Constant (.str w) j1 p2) X.env), (false, eval (.Constant (.int n) j2 p3) X.env)] := by rfl) :
    PD X E (.Call (.Name x p) [.Lambda params body scope lpos, .Constant (.str w) j1 p2, .Constant (.int n) j2 p3] [] pos) (dRefuse dt C) := by
  have hb := F.bindsN (ps := [a, a2, a3]) hbg
  have kp := F.kp
  obtain ⟨oc, od, dV, kV, doc, pm, an, cdv, ct, osl, rfl, lk, hcd2, hD, _⟩ := F.ex
  exact pd_refuse hg hm kp lk hcd2 hb Sg hNg hva (hG cdv) hx TB hcode hmT hu hr L hdef hbind hbody hdb hd hcd hse
end
end Cc
/-! ### lists and dicts that are done with: read as values -/
namespace Cc
open PySem PySem.Spec PyProof.Rows L2
def delD (G : DH) (a : Addr) : DH := fun b => if b = a then none else G b
theorem delD_same {G : DH} {a : Addr} : delD G a a = none := if_pos rfl
theorem delD_ne {G : DH} {a b : Addr} (h : b ≠ a) : delD G a b = G b := if_neg h
theorem delD_updD {G : DH} {a : Addr} {c : C} (h : G a = none) : delD (updD G a c) a = G := by
  funext b
  unfold delD updD
  split
  · rename_i e; subst e; exact h.symm
  · rfl
theorem delD_put {G : DH} {a b : Addr} {c : C} (h : b ≠ a) : delD (updD G b c) a = updD (delD G a) b c := by
  funext x
  unfold delD updD
  by_cases h1 : x = a
  · subst h1
    simp [Ne.symm h]
  · simp [h1]
theorem updD_comm {G : DH} {a b : Addr} {c d : C} (h : a ≠ b) : updD (updD G a c) b d = updD (updD G b d) a c := by
  funext x
  unfold updD
  by_cases h1 : x = b
  · subst h1
    rw [if_pos rfl, if_neg (Ne.symm h), if_pos rfl]
  · rw [if_neg h1, if_neg h1]
theorem updD_id {G : DH} {a : Addr} {c : C} (h : G a = some c) : updD G a c = G := by
  funext x
  unfold updD
  split
  · rename_i e; subst e; exact h.symm
  · rfl
theorem Sub.del {G : DH} {a : Addr} : Sub (delD G a) G := fun b c h => by
  by_cases hb : b = a
  · subst hb; rw [delD_same] at h; cases h
  · rw [delD_ne hb] at h; exact h
section
variable {K : KT} {H H' : Hp} {G G' : DH} {a p : Addr} {c : C} {o o0 u : HO} {od : Obj}
theorem HRel.frz (h : HRel K G H) (e : H p = some u) (w : Wr u) : HRel K (delD G p) (upd H p (.frz od u)) := ⟨fun a c q => by
  by_cases hb : a = p
  · subst hb; rw [delD_same] at q; cases q
  · rw [delD_ne hb] at q
    exact (h a c q).stay (Up.put e w) (upd_ne hb), tabs_put h.t e w⟩
theorem HRel.dv_frz (h : HRel K G H) {l : List D} (q : G p = some (.lst l)) : ∃ u, H p = some u ∧ Wr u ∧ Mut (some u) ∧ ∀ od, Dv K (upd H p (.frz od u)) (.ref p) (.rol l) := by
  obtain ⟨xs, e, r⟩ := h p _ q
  exact ⟨_, e, trivial, trivial, fun od => .rol ⟨od, upd_same⟩ (r.up (Up.put e trivial))⟩
theorem HRel.dv_frzK (h : HRel K G H) {l : List (Key × D)} (q : G p = some (.dK l)) : ∃ u, H p = some u ∧ Wr u ∧ Mut (some u) ∧ ∀ od, Dv K (upd H p (.frz od u)) (.ref p) (.rod l) := by
  obtain ⟨xs, e, r⟩ := h p _ q
  exact ⟨_, e, trivial, trivial, fun od => .rod ⟨od, upd_same⟩ (DvK.of (r.up (Up.put e trivial)))⟩
end
/-! at the library's side -/
def tFrz (t : TE) : TE := fun σ H Q => t σ H fun v H1 => Q v H1 ∨ ∃ d u, H1 d = some u ∧ Mut (some u) ∧ ∀ od, Q v (upd H1 d (.frz od u))
theorem pe_frz {X : Cx} {e : Expr} {t : TE} (h : PE X e t) : PE X e (tFrz t) := ⟨fun pins s σ H Q I hw => thn (h.run pins s σ H _ I hw) fun v s1 ⟨x, H1, I1, r, q⟩ => by
  rcases q with q | ⟨d, u, e1, mu, q⟩
  · exact ⟨x, H1, I1, r, q⟩
  · obtain ⟨od, I2⟩ := I1.lock e1 mu
    exact ⟨x, _, I2, r, q od⟩⟩
def sFrz (t : TS) : TS := fun D σ H => t D σ H ∨ ∃ d u, H d = some u ∧ Mut (some u) ∧ ∀ od, t D σ (upd H d (.frz od u))
theorem ps_frz {X : Cx} {st : Stmt} {t : TS} (h : PS X st t) : PS X st (sFrz t) := ⟨fun pins s σ H D I hw => by
  rcases hw with hw | ⟨d, u, e1, mu, q⟩
  · exact h.run pins s σ H D I hw
  · obtain ⟨od, I2⟩ := I.lock e1 mu
    exact h.run pins s σ _ D I2 (q od)⟩
theorem pss_frz {X : Cx} {st : List Stmt} {t : TS} (h : PSs X st t) : PSs X st (sFrz t) := ⟨fun pins s σ H D I hw => by
  rcases hw with hw | ⟨d, u, e1, mu, q⟩
  · exact h.run pins s σ H D I hw
  · obtain ⟨od, I2⟩ := I.lock e1 mu
    exact h.run pins s σ _ D I2 (q od)⟩
/-- a statement behind whose plain end something is locked -/
def sFrzN (t : TS) : TS := fun D σ H => t { D with nx := fun σ' H1 => D.nx σ' H1 ∨ ∃ d u, H1 d = some u ∧ Mut (some u) ∧ ∀ od, D.nx σ' (upd H1 d (.frz od u)) } σ H
theorem ps_frzN {X : Cx} {st : Stmt} {t : TS} (h : PS X st t) : PS X st (sFrzN t) := ⟨fun pins s σ H D I hw => thn (h.run pins s σ H _ I hw) fun f s1 q => by
  cases f with
  | next =>
    obtain ⟨σ', H', I2, q⟩ := q
    rcases q with q | ⟨d, u, e1, mu, q⟩
    · exact ⟨σ', H', I2, q⟩
    · obtain ⟨od, I3⟩ := I2.lock e1 mu
      exact ⟨σ', _, I3, q od⟩
  | brk => exact q
  | cont => exact q
  | ret v => exact q⟩
/-! the readings -/
def fzv (R : DK) : DK := fun v G => match v with
  | .ref p => (match G p with
    | some (.lst l) => R (.rol l) (delD G p)
    | some (.dK kvs) => R (.rod kvs) (delD G p)
    | _ => R v G)
  | _ => R v G
def dFz (de : DE) : DE := fun δ G R EX => de δ G (fzv R) EX
section
variable {X : Cx} {E : EK} {e : Expr} {de : DE} {st : Stmt} {sts : List Stmt} {t : DSt}
theorem clo_fz {K : KT} {H : Hp} {Q : VK} {R : DK} (cr : CloR K H Q R) : CloR K H (fun v H1 => Q v H1 ∨ ∃ d u, H1 d = some u ∧ Mut (some u) ∧ ∀ od, Q v (upd H1 d (.frz od u))) (fzv R) := fun v H1 d G1 u1 h1 r1 q1 => by
  unfold fzv at q1
  split at q1
  · rename_i p
    split at q1
    · rename_i l e
      cases r1
      obtain ⟨u, e1, w, mu, r⟩ := h1.dv_frz e
      exact .inr ⟨p, u, e1, mu, fun od => cr _ _ _ _ (u1.trans (Up.put e1 w)) (h1.frz e1 w) (r od) q1⟩
    · rename_i l e
      cases r1
      obtain ⟨u, e1, w, mu, r⟩ := h1.dv_frzK e
      exact .inr ⟨p, u, e1, mu, fun od => cr _ _ _ _ (u1.trans (Up.put e1 w)) (h1.frz e1 w) (r od) q1⟩
    · exact .inl (cr _ _ _ _ u1 h1 r1 q1)
  · exact .inl (cr _ _ _ _ u1 h1 r1 q1)
theorem pd_frz (h : PD X E e de) : PD X E e (dFz de) := ⟨imE (pe_frz h.pe) fun σ H Q ⟨δ, G, R, EX, sr, hr, h, cr, cx⟩ => ⟨δ, G, _, EX, sr, hr, h, clo_fz cr, cx⟩⟩
/-- what is more is forgotten -/
def dFg (de : DE) : DE := fun δ G R EX => de δ G (frg R) EX
theorem pd_frg (h : PD X E e de) : PD X E e (dFg de) := ⟨imE h.pe fun σ H Q ⟨δ, G, R, EX, sr, hr, h, cr, cx⟩ => ⟨δ, G, _, EX, sr, hr, h, clo_frg cr, cx⟩⟩
theorem pd_imp {d2 : DE} (h : PD X E e de) (k : ∀ δ G R EX, d2 δ G R EX → de δ G R EX) : PD X E e d2 := ⟨imE h.pe fun σ H Q ⟨δ, G, R, EX, sr, hr, h, cr, cx⟩ => ⟨δ, G, R, EX, sr, hr, k _ _ _ _ h, cr, cx⟩⟩
theorem pds_imp {t2 : DSt} (h : PDS X E st t) (k : ∀ D δ G, t2 D δ G → t D δ G) : PDS X E st t2 := ⟨imS h.ps fun Dn σ H ⟨δ, G, DD, sr, hr, h, cn, ct, cb, cc, cx⟩ => ⟨δ, G, DD, sr, hr, k _ _ _ h, cn, ct, cb, cc, cx⟩⟩
/-- ahead of a statement a local list (dict) is read as a value from here on -/
def sFz (i : Nat) (t : DSt) : DSt := fun D δ G => match δ[i]? with
  | some (some (.ref p)) => (match G p with
    | some (.lst l) => t D (δ.set i (some (.rol l))) (delD G p)
    | some (.dK kvs) => t D (δ.set i (some (.rod kvs))) (delD G p)
    | _ => t D δ G)
  | _ => t D δ G
theorem SRel.reread {K : KT} {H : Hp} {σ : L2.St} {δ : DS} {i : Nat} {d d' : D} (h : SRel K H σ δ) (e : δ[i]? = some (some d)) (k : ∀ v, Dv K H v d → Dv K H v d') : SRel K H σ (δ.set i (some d')) := by
  refine ⟨by rw [List.length_set]; exact h.1, fun j e2 q => ?_⟩
  by_cases hb : i = j
  · subst hb
    rw [List.getElem?_set_self (by have := List.getElem?_eq_some_iff.mp e; exact this.1)] at q
    cases q
    obtain ⟨v, h1, h2⟩ := h.2 i d e
    exact ⟨v, h1, k v h2⟩
  · rw [List.getElem?_set_ne hb] at q
    exact h.2 j e2 q
theorem pds_frz (i : Nat) (h : PDS X E st t) : PDS X E st (sFz i t) := ⟨imS (ps_frz h.ps) fun Dn σ H ⟨δ, G, DD, sr, hr, h, cn, ct, cb, cc, cx⟩ => by
  unfold sFz at h
  split at h
  · rename_i p e
    split at h
    · rename_i l eG
      obtain ⟨u, e1, w, mu, r⟩ := hr.dv_frz eG
      refine .inr ⟨p, u, e1, mu, fun od => ?_⟩
      have uw : Up H (upd H p (.frz od u)) := Up.put e1 w
      exact ⟨_, _, DD, (sr.up uw).reread e (fun v h => by cases h; exact r od), hr.frz e1 w, h, cn.up uw, ct.up uw, cb.up uw, cc.up uw, cx.up uw⟩
    · rename_i l eG
      obtain ⟨u, e1, w, mu, r⟩ := hr.dv_frzK eG
      refine .inr ⟨p, u, e1, mu, fun od => ?_⟩
      have uw : Up H (upd H p (.frz od u)) := Up.put e1 w
      exact ⟨_, _, DD, (sr.up uw).reread e (fun v h => by cases h; exact r od), hr.frz e1 w, h, cn.up uw, ct.up uw, cb.up uw, cc.up uw, cx.up uw⟩
    · exact .inl ⟨δ, G, DD, sr, hr, h, cn, ct, cb, cc, cx⟩
  · exact .inl ⟨δ, G, DD, sr, hr, h, cn, ct, cb, cc, cx⟩⟩
theorem sFz_lst {i : Nat} {t : DSt} {D : DEnds} {δ : DS} {G : DH} {p : Addr} {l : List Cc.D} (e : δ[i]? = some (some (.ref p))) (eG : G p = some (.lst l)) (h : t D (δ.set i (some (.rol l))) (delD G p)) : sFz i t D δ G := by
  unfold sFz
  rw [e]
  dsimp only
  rw [eG]
  exact h
end
/-! ### a comprehension, its list read as a value; the list that grows is out of sight -/
section
variable {X : Cx} {pins : List (Addr × Obj)} {σ : L2.St} {H : Hp} {s : Shared} {d : Addr} {u : HO}
theorem lock2 (I : Inv X pins σ H s) (h : H d = some u) (mu : Mut (some u)) : ∃ od, Inv X pins σ (upd H d (.frz od (.frz od u))) s := by
  obtain ⟨od, I1⟩ := I.lock h mu
  have x := I1.hok d _ upd_same
  obtain ⟨e, x⟩ := x
  have ne1 : ∀ b y, H b = some (.own y) → b ≠ d := fun b y q z => by subst z; rw [h] at q; cases q; exact mu
  have ne2 : ∀ b xs, H b = some (.tup xs) → b ≠ d := fun b y q z => by subst z; rw [h] at q; cases q; exact mu
  have new : ObjOk X.prog X.w (upd H d (.frz od (.frz od u))) s.heap d (.frz od (.frz od u)) := by
    refine ⟨e, e, x.stay (fun b v _ q => q) (fun b q => ?_) fun b xs q => ?_⟩
    · by_cases hb : b = d
      · subst hb; rw [upd_same] at q; cases q
      · rw [upd_ne hb] at q ⊢; exact q
    · by_cases hb : b = d
      · subst hb; rw [upd_same] at q; cases q
      · rw [upd_ne hb] at q ⊢; exact q
  exact ⟨od, I.write (x := d) (e := d) (t' := s.toks) (h' := s.heap) (by rw [h]; exact mu) (.inl rfl) (fun b v _ q => q) ⟨od, e⟩ new⟩
theorem unlock2 {od : Obj} (I : Inv X pins σ H s) (h : H d = some (.frz od (.frz od u))) (hn : ∀ o' u', X.H_0 d ≠ some (.frz o' u')) : Inv X pins σ (upd H d u) s := by
  have neH : ∀ b o, H b = some o → (∀ o' u', o ≠ .frz o' u') → b ≠ d := fun b o e hne z => by
    rw [z, h] at e
    cases e
    exact hne _ _ rfl
  have neN : ∀ b, H b = none → b ≠ d := fun b e z => by rw [z, h] at e; cases e
  refine ⟨I.ok, I.os, I.bare, ⟨I.base.keep, I.base.slot, fun b o e n hx => ?_, I.base.there, fun b xs e => ?_, fun b o x e => ?_, fun b ps e => ?_⟩, I.loc, I.cell, ?_, fun x c e => ?_, fun p hp => ?_, fun b o e => ?_, I.len⟩
  · rw [upd_ne (neN b (I.base.free b o e n hx))]; exact I.base.free b o e n hx
  · have q := I.base.tups b xs e
    rw [upd_ne (neH b _ q (fun _ _ z => nomatch z))]; exact q
  · have q := I.base.frzs b o x e
    rw [upd_ne (fun z => by rw [z] at e; exact hn _ _ e)]; exact q
  · obtain ⟨m, q⟩ := I.base.tbls b ps e
    exact ⟨m, by rw [upd_ne (neH b _ q (fun _ _ z => nomatch z))]; exact q⟩
  · rw [upd_ne (neN _ I.free)]; exact I.free
  · rw [upd_ne (neN c (I.freeC x c e))]; exact I.freeC x c e
  · obtain ⟨e, n, r⟩ := I.pin p hp
    exact ⟨e, by rw [upd_ne (neN _ n)]; exact n, r⟩
  · by_cases hb : b = d
    · rw [hb, upd_same] at e
      cases e
      rw [hb]
      obtain ⟨_, _, x⟩ := I.hok d _ h
      exact x.stay (fun c v _ q => q) (fun c q => by rw [upd_ne (neH c _ q (fun _ _ z => nomatch z))]; exact q) fun c xs q => by rw [upd_ne (neH c _ q (fun _ _ z => nomatch z))]; exact q
    · rw [upd_ne hb] at e
      exact (I.hok b o e).stay (fun c v _ q => q) (fun c q => by rw [upd_ne (neH c _ q (fun _ _ z => nomatch z))]; exact q) fun c xs q => by rw [upd_ne (neH c _ q (fun _ _ z => nomatch z))]; exact q
end
def eL2 (d : Addr) (t : TE) : TE := fun σ H Q => ∃ u, H d = some u ∧ Mut (some u) ∧ ∀ od, t σ (upd H d (.frz od (.frz od u))) fun v H' => H' d = some (.frz od (.frz od u)) ∧ Q v (upd H' d u)
def tL2 (d : Addr) (t : TT) : TT := fun σ H Q => ∃ u, H d = some u ∧ Mut (some u) ∧ ∀ od, t σ (upd H d (.frz od (.frz od u))) fun v H' => H' d = some (.frz od (.frz od u)) ∧ Q v (upd H' d u)
def gL2 (d : Addr) (t : TG) : TG := fun v σ H Q => ∃ u, H d = some u ∧ Mut (some u) ∧ ∀ od, t v σ (upd H d (.frz od (.frz od u))) fun σ' H' => H' d = some (.frz od (.frz od u)) ∧ Q σ' (upd H' d u)
def eL (t : TE) : TE := fun σ H Q => ∃ d, eL2 d t σ H Q
def tL (t : TT) : TT := fun σ H Q => ∃ d, tL2 d t σ H Q
def gL (t : TG) : TG := fun v σ H Q => ∃ d, gL2 d t v σ H Q
section
variable {X : Cx} {e : Expr} {ifs : List Expr} {t : TE} {tt : TT} {g : TG}
theorem pe_L (h : PE X e t) : PE X e (eL t) := ⟨fun pins s σ H Q I ⟨d, u, hd, mu, hw⟩ => by
  obtain ⟨od, I1⟩ := lock2 I hd mu
  exact thn (h.run pins s σ _ _ I1 (hw od)) fun v s1 ⟨x, H1, I2, r, e2, q⟩ => ⟨x, _, unlock2 I2 e2 (I.nofrz hd mu), r, q⟩⟩
theorem pts_L (h : PTs X ifs tt) : PTs X ifs (tL tt) := ⟨fun pins s σ H Q I ⟨d, u, hd, mu, hw⟩ => by
  obtain ⟨od, I1⟩ := lock2 I hd mu
  exact thn (h.run pins s σ _ _ I1 (hw od)) fun v s1 ⟨H1, I2, e2, q⟩ => ⟨_, unlock2 I2 e2 (I.nofrz hd mu), q⟩⟩
theorem pg_L (h : PG X e g) : PG X e (gL g) := ⟨fun pins s σ H v u0 Q I r ⟨d, u, hd, mu, hw⟩ => by
  obtain ⟨od, I1⟩ := lock2 I hd mu
  exact thn (h.run pins s σ _ v u0 _ I1 r (hw od)) fun _ s1 ⟨σ', H1, I2, e2, q⟩ => ⟨σ', _, unlock2 I2 e2 (I.nofrz hd mu), q⟩⟩
end
section
variable {K : KT} {H H' H0 : Hp} {G : DH} {d : Addr} {xs : List V} {od : Obj}
theorem unl0 (e : H d = some (.frz od (.frz od (.lst xs)))) : Up0 H (upd H d (.lst xs)) := by
  refine ⟨fun a ys q => ?_, fun a o ys q => ?_, fun a o ys q => ?_⟩
  all_goals rw [upd_ne (fun z => by subst z; rw [e] at q; cases q)]; exact q
theorem unlT (e : H d = some (.frz od (.frz od (.lst xs)))) : ∀ a o ys, H a = some (.frz o (.tup ys)) → upd H d (.lst xs) a = some (.frz o (.tup ys)) := fun a o ys q => by
  rw [upd_ne (fun z => by subst z; rw [e] at q; cases q)]; exact q
theorem KVr.up0 {κ : Type} (u : Up0 H H') (hf : ∀ a o xs, H a = some (.frz o (.tup xs)) → H' a = some (.frz o (.tup xs))) {xs : List (κ × V)} {ys : List (κ × D)} (h : KVr K H xs ys) : KVr K H' xs ys :=
  Paired.mapP h fun _ _ q => ⟨q.1, q.2.up0 u hf⟩
theorem CRel.stay0 {a : Addr} {c : C} (u : Up0 H H') (hf : ∀ a o xs, H a = Option.some (HO.frz o (HO.tup xs)) → H' a = Option.some (HO.frz o (HO.tup xs))) (e : H' a = H a) (h : CRel K H a c) : CRel K H' a c := by
  cases c with
  | lst l => obtain ⟨xs, q, r⟩ := h; exact ⟨xs, e.trans q, r.up0 u hf⟩
  | dK l => obtain ⟨xs, q, r⟩ := h; exact ⟨xs, e.trans q, r.up0 u hf⟩
  | dT l => obtain ⟨xs, q, r⟩ := h; exact ⟨xs, e.trans q, r.up0 u hf⟩
  | ins cl fs => obtain ⟨dx, xs, q, r⟩ := h; exact ⟨dx, xs, e.trans q, r.up0 u hf⟩
  | xd l => obtain ⟨xs, q, r⟩ := h; exact ⟨xs, e.trans q, r.up0 u hf⟩
theorem CRel.noFrz {a : Addr} {c : C} (h : CRel K H a c) {o : Obj} {w : HO} (e : H a = Option.some (HO.frz o w)) : False := by
  cases c with
  | lst l => obtain ⟨xs, q, r⟩ := h; rw [e] at q; cases q
  | dK l => obtain ⟨xs, q, r⟩ := h; rw [e] at q; cases q
  | dT l => obtain ⟨xs, q, r⟩ := h; rw [e] at q; cases q
  | ins cl fs => obtain ⟨dx, xs, q, r⟩ := h; rw [e] at q; cases q
  | xd l => obtain ⟨xs, q, r⟩ := h; rw [e] at q; cases q
theorem HRel.noFrz (h : HRel K G H) {o : Obj} {w : HO} (e : H d = Option.some (HO.frz o w)) : G d = Option.none := by
  cases q : G d with
  | none => rfl
  | some c => exact (CRel.noFrz (h.c d c q) e).elim
theorem HRel.unl (h : HRel K G H) (e : H d = Option.some (HO.frz od (HO.frz od (HO.lst xs)))) : HRel K G (upd H d (.lst xs)) := ⟨fun a c q => by
  have ne : a ≠ d := fun z => by subst z; exact CRel.noFrz (h.c a c q) e
  exact CRel.stay0 (h := h.c a c q) (unl0 e) (unlT e) (upd_ne ne), fun x hx => by
  obtain ⟨ps, h1, h2, h3⟩ := h.t x hx
  refine ⟨ps, ?_, h2, fun pos cv z => ?_⟩
  · rw [upd_ne (fun z => by subst z; rw [e] at h1; cases h1)]; exact h1
  · obtain ⟨c0, e1, e2⟩ := h3 pos cv z
    exact ⟨c0, e1, by rw [upd_ne (fun z => by subst z; rw [e] at e2; cases e2)]; exact e2⟩⟩
/-- out of sight: another thing at d -/
theorem HRel.hid (h : HRel K G H) (n : G d = Option.none) {u o : HO} (e : H d = some u) (w : Wr u) : HRel K G (upd H d o) := ⟨fun a c q => by
  have ne : a ≠ d := fun z => by subst z; rw [n] at q; cases q
  exact (h a c q).stay (Up.put e w) (upd_ne ne), tabs_put h.t e w⟩
/-- from ahead of d's making to behind its unlocking -/
theorem Up.unl (u : Up H0 H) (n : H0 d = Option.none) : Up H0 (upd H d (.lst xs)) := by
  refine ⟨fun a ys q => ?_, fun a o w q => ?_, fun a c q => ?_⟩
  · rw [upd_ne (ne_of_none q n)]; exact u.tups _ _ q
  · rw [upd_ne (ne_of_none q n)]; exact u.frzs _ _ _ q
  · rw [upd_ne (ne_of_none q n)]; exact u.code _ _ q
theorem SRel.up0 {σ : L2.St} {δ : DS} (u : Up0 H H') (hf : ∀ a o xs, H a = some (.frz o (.tup xs)) → H' a = some (.frz o (.tup xs))) (h : SRel K H σ δ) : SRel K H' σ δ := ⟨h.1, fun i d e => by
  obtain ⟨v, a, b⟩ := h.2 i d e
  exact ⟨v, a, b.up0 u hf⟩⟩
end
def goLcF (ok : DH → Prop) (g : DG) (tt : DT) (te : DE) (k : List D → DH → Prop) (δ : DS) : List D → List D → DH → Prop
  | acc, [], G => ok G ∧ k acc G
  | acc, x :: xs, G => ok G ∧ g x δ G (fun δ2 G2 => tt δ2 G2 (fun b G3 => if b = true then te δ2 G3 (fun y G4 => acc.length < sizeLine ∧ goLcF ok g tt te k δ (acc ++ [y]) xs G4) noX else goLcF ok g tt te k δ acc xs G3) noX) noX
def dLcF (di : DI) (g : DG) (tt : DT) (te : DE) (vs : List Nat) : DE := fun δ G R EX => di δ G (fun l ok G1 => goLcF ok g tt te (fun acc G => R (.rol acc) G) (wipeD δ vs) [] l G1) EX
theorem ct_L {vs : List Nat} {g : TG} (h : CT vs g) : CT vs (gL g) := fun v σ H Q ⟨d, u, e, mu, q⟩ => ⟨d, u, e, mu, fun od => by
  have z := h _ _ _ _ (q od)
  have m : ∀ {P P' : L2.St → Hp → Prop}, (∀ a b, P a b → P' a b) → P = P' ∨ True := fun _ => .inr trivial
  have e2 : (fun σ2 H2 => wipe σ2 vs = wipe σ vs ∧ H2 d = some (.frz od (.frz od u)) ∧ Q σ2 (upd H2 d u)) = (fun σ' H' => H' d = some (.frz od (.frz od u)) ∧ wipe σ' vs = wipe σ vs ∧ Q σ' (upd H' d u)) := by
    funext a b
    exact propext ⟨fun ⟨a, b, c⟩ => ⟨b, a, c⟩, fun ⟨a, b, c⟩ => ⟨b, a, c⟩⟩
  rw [e2] at z
  exact z⟩
def DvStay (K : KT) (H H' : Hp) : Prop := ∀ v d, Dv K H v d → Dv K H' v d
/-- from a state with the list at Z in the open to another one -/
structure Past (K : KT) (Z : Addr) (xs : List V) (H H' : Hp) : Prop where
  up : ∀ H0, Up H0 H → H0 Z = none → Up H0 H'
  at_ : H' Z = some (.lst xs)
  dv : ∀ v d, Dv K H v d → Dv K H' v d
theorem past {K : KT} {Z : Addr} {xs : List V} {H H1 : Hp} {od : Obj} (e : H Z = some (.lst xs)) (u : Up (upd H Z (.frz od (.frz od (.lst xs)))) H1) : H1 Z = some (.frz od (.frz od (.lst xs))) ∧ Past K Z xs H (upd H1 Z (.lst xs)) := by
  have uw : Up H (upd H Z (.frz od (.frz od (.lst xs)))) := Up.put e trivial
  have e2 := u.frzs _ _ _ (upd_same (H := H) (a := Z) (o := .frz od (.frz od (.lst xs))))
  exact ⟨e2, fun H0 u0 n0 => Up.unl ((u0.trans uw).trans u) n0, upd_same, fun v d z => ((z.up uw).up u).up0 (unl0 e2) (unlT e2)⟩
theorem Past.dvl {K : KT} {Z : Addr} {xs : List V} {H H' : Hp} (p : Past K Z xs H H') : ∀ {vs : List V} {ds : List D}, DvL K H vs ds → DvL K H' vs ds
  | _, _, .nil => .nil
  | _, _, .cons h r => .cons (p.dv _ _ h) (p.dvl r)
theorem wg_L {K : KT} {g : DG} {g0 : TG} (lg : ∀ v σ H Q, upG K noE g v σ H Q → g0 v σ H Q) {Z : Addr} {xs : List V} {v : V} {d : D} {σ : L2.St} {δ : DS} {H : Hp} {G : DH} {R : DS → DH → Prop} {Q : L2.St → Hp → Prop} (e : H Z = some (.lst xs)) (n : G Z = none)
    (dv : Dv K H v d) (sr : SRel K H σ δ) (hr : HRel K G H) (h : g d δ G R noX)
    (k : ∀ σ' H' δ' G', Past K Z xs H H' → SRel K H' σ' δ' → HRel K G' H' → G' Z = none → R δ' G' → Q σ' H') : gL g0 v σ H Q := by
  refine ⟨Z, _, e, trivial, fun od => lg _ _ _ _ ?_⟩
  have uw : Up H (upd H Z (.frz od (.frz od (.lst xs)))) := Up.put e trivial
  refine ⟨d, δ, G, R, noX, dv.up uw, sr.up uw, hr.hid n e trivial, h, fun σ' H' δ' G' u s2 h2 q => ?_, CloX.no⟩
  obtain ⟨e2, p⟩ := past (K := K) e u
  exact ⟨e2, k _ _ _ _ p (s2.up0 (unl0 e2) (unlT e2)) (h2.unl e2) (h2.noFrz e2) q⟩
theorem wt_L {K : KT} {tt : DT} {Z : Addr} {xs : List V} {σ : L2.St} {δ : DS} {H : Hp} {G : DH} {R : Bool → DH → Prop} {Q : Bool → Hp → Prop} (e : H Z = some (.lst xs)) (n : G Z = none)
    (sr : SRel K H σ δ) (hr : HRel K G H) (h : tt δ G R noX)
    (k : ∀ b H' G', Past K Z xs H H' → SRel K H' σ δ → HRel K G' H' → G' Z = none → R b G' → Q b H') : tL (upT K noE tt) σ H Q := by
  refine ⟨Z, _, e, trivial, fun od => ?_⟩
  have uw : Up H (upd H Z (.frz od (.frz od (.lst xs)))) := Up.put e trivial
  refine ⟨δ, G, R, noX, sr.up uw, hr.hid n e trivial, h, fun b H' G' u h2 q => ?_, CloX.no⟩
  obtain ⟨e2, p⟩ := past (K := K) e u
  exact ⟨e2, k _ _ _ p (((sr.up uw).up u).up0 (unl0 e2) (unlT e2)) (h2.unl e2) (h2.noFrz e2) q⟩
theorem we_L {K : KT} {te : DE} {Z : Addr} {xs : List V} {σ : L2.St} {δ : DS} {H : Hp} {G : DH} {R : DK} {Q : VK} (e : H Z = some (.lst xs)) (n : G Z = none)
    (sr : SRel K H σ δ) (hr : HRel K G H) (h : te δ G R noX)
    (k : ∀ v d H' G', Past K Z xs H H' → Dv K H' v d → HRel K G' H' → G' Z = none → R d G' → Q v H') : eL (up K noE te) σ H Q := by
  refine ⟨Z, _, e, trivial, fun od => ?_⟩
  have uw : Up H (upd H Z (.frz od (.frz od (.lst xs)))) := Up.put e trivial
  refine ⟨δ, G, R, noX, sr.up uw, hr.hid n e trivial, h, fun v H' d G' u h2 r q => ?_, CloX.no⟩
  obtain ⟨e2, p⟩ := past (K := K) e u
  exact ⟨e2, k _ _ _ _ p (r.up0 (unl0 e2) (unlT e2)) (h2.unl e2) (h2.noFrz e2) q⟩
theorem up_lcF {E : XK} {di : DI} {g : DG} {dA : DT} {de : DE} {vs : List Nat} {g0 : TG} {K : KT} (cg : CT vs g0) (lg : ∀ v σ H Q, upG K noE g v σ H Q → g0 v σ H Q) {σ : L2.St} {H : Hp} {Q : VK} : up K E (dLcF di g dA de vs) σ H Q → tLc (upI K E di) (gL g0) (tL (upT K noE dA)) (eL (up K noE de)) vs σ H (fun v H1 => Q v H1 ∨ ∃ d u, H1 d = some u ∧ Mut (some u) ∧ ∀ od, Q v (upd H1 d (.frz od u))) := fun ⟨δ, G, R, EX, sr, hr, h, cr, cx⟩ => by
  refine ⟨δ, G, _, EX, sr, hr, h, fun J l ok H0 G0 u0 h0 so q0 => ?_, cx⟩
  intro Z hZ
  have sr0 := sr.up u0
  have uZ : Up H0 (upd H0 Z (.lst [])) := Up.new hZ
  refine ⟨fun i m H => m = l.length - i ∧ i ≤ l.length ∧ ∃ G acc xs, HRel K G H ∧ Up H0 H ∧ G Z = none ∧ H Z = some (.lst xs) ∧ DvL K H xs acc ∧ goLcF ok g dA de (fun acc G => R (.rol acc) G) (wipeD δ vs) acc (l.drop i) G,
    ⟨l.length, by simp, Nat.zero_le _, G0, [], [], h0.new0 hZ, uZ, h0.none hZ, upd_same, .nil, by simpa using q0⟩, ?_⟩
  rintro i m H1 ⟨rfl, hi, G1, acc, xs, h1, u1, n1, e1, r1, q1⟩
  by_cases hlt : i < l.length
  · rw [List.drop_eq_getElem_cons hlt] at q1
    obtain ⟨k1, q1⟩ := q1
    have h1Z : HRel K (updD G1 Z (.lst acc)) H1 := ⟨fun a c q => by
      by_cases hb : a = Z
      · subst hb; rw [updD_same] at q; cases q; exact ⟨xs, e1, r1⟩
      · rw [updD_ne hb] at q; exact h1.c a c q, h1.t⟩
    obtain ⟨gx, yx⟩ := (so.at_ i H1 _ u1 h1Z (so.mono _ _ (Sub.new n1) k1)).1 hlt
    let NX : Hp → Prop := fun H2 => ∃ G2 acc xs, HRel K G2 H2 ∧ Up H0 H2 ∧ G2 Z = none ∧ H2 Z = some (.lst xs) ∧ DvL K H2 xs acc ∧ goLcF ok g dA de (fun acc G => R (.rol acc) G) (wipeD δ vs) acc (l.drop (i + 1)) G2
    refine .inr ⟨gx, NX, fun H2 ⟨G2, a, b, c, d⟩ => ⟨l.length - (i + 1), by omega, rfl, hlt, G2, a, b, c, d⟩, fun x H2 y => ?_⟩
    obtain ⟨d, ed, u2, h2Z, r2⟩ := yx x H2 y
    rw [List.getElem?_eq_getElem hlt] at ed
    cases ed
    obtain ⟨xs2, e2, rx2⟩ := h2Z.c Z _ updD_same
    have h2 : HRel K G1 H2 := h2Z.sub (Sub.new n1)
    have u12 := u1.trans u2
    have s2 : SRel K H2 (L2.wipe σ vs) (wipeD δ vs) := (sr0.up u12).wipe vs
    have cw := ct_L cg x (wipe σ vs) H2 (fun σ3 H3 => tL (upT K noE dA) σ3 H3 fun b H4 => if b = true then eL (up K noE de) σ3 H4 fun y H5 => ∃ acc, H5 Z = some (.lst acc) ∧ acc.length < sizeLine ∧ NX (upd H5 Z (.lst (acc ++ [y]))) else NX H4)
      (wg_L lg e2 n1 r2 s2 h2 q1 fun σ3 H3 δ3 G3 p3 s3 h3 n3 q3 => wt_L p3.at_ n3 s3 h3 q3 fun b H4 G4 p4 s4 h4 n4 q4 => ?_)
    · rw [wipe_wipe] at cw
      exact cw
    · cases b with
      | true =>
        rw [if_pos rfl] at q4
        refine iteT ?_
        refine we_L p4.at_ n4 s4 h4 q4 fun y dy H5 G5 p5 r5 h5 n5 q5 => ?_
        have uw : Up H5 (upd H5 Z (.lst (xs2 ++ [y]))) := Up.put p5.at_ trivial
        have r5L : DvL K H5 xs2 acc := p5.dvl (p4.dvl (p3.dvl rx2))
        refine ⟨xs2, p5.at_, by rw [r5L.length]; exact q5.1, G5, acc ++ [dy], xs2 ++ [y], h5.hid n5 p5.at_ trivial, ?_, n5, upd_same, (r5L.up uw).append (.cons (r5.up uw) .nil), q5.2⟩
        exact (p5.up _ (p4.up _ (p3.up _ u12 hZ) hZ) hZ).trans uw
      | false =>
        rw [if_neg Bool.false_ne_true] at q4
        refine iteF ?_
        exact ⟨G4, acc, xs2, h4, p4.up _ (p3.up _ u12 hZ) hZ, n4, p4.at_, p4.dvl (p3.dvl rx2), q4⟩
  · have e : i = l.length := by omega
    subst e
    rw [List.drop_length] at q1
    refine .inl ⟨(so.at_ _ H1 G1 u1 h1 q1.1).2 (Nat.le_refl _), .inr ⟨Z, _, e1, trivial, fun od => ?_⟩⟩
    have uw : Up H1 (upd H1 Z (.frz od (.lst xs))) := Up.put e1 trivial
    exact cr _ _ _ _ ((u0.trans u1).trans uw) (h1.hid n1 e1 trivial) (.rol ⟨od, upd_same⟩ (r1.up uw)) q1.2
section
variable {X : Cx} {E : EK} {pos : Pos}
theorem pd_lcF {elt tg iter : Expr} {ifs : List Expr} {scope : Scope} {own : List (Str × Nat)} {di : DI} {g : DG} {tt : DT} {te : DE} (hc : X.calm = true) (hN : X.N.Nodup) (hi : PDI X E tg iter di) (ok : BlkOk X.N X.env.scope scope own)
    (B : BlkP X E scope (own.map (·.2)) tg elt ifs g tt te) (hs : ∀ x, foldedSetIterable iter X.env x = pure x := by intro _; rfl) : PD X E (.ListComp elt [⟨tg, iter, ifs, 0⟩] scope pos) (dLcF di g tt te (own.map (·.2))) := by
  obtain ⟨g0, c0, l0, p0⟩ := B.g
  exact ⟨imE (pe_frz (pe_lc hc hN hi.pi ok (fun s H C cl fp => pg_L (p0 s H C cl fp)) (fun s H C cl fp => pts_L (B.t s H C cl fp).ts) (fun s H C cl fp => pe_L (B.e s H C cl fp).pe) hs)) fun _ _ _ => up_lcF c0 l0⟩
theorem pds_setLcF {i : Nat} {y : Str} {py spos : Pos} {elt tg iter : Expr} {ifs : List Expr} {scope : Scope} {own : List (Str × Nat)} {di : DI} {g : DG} {tt : DT} {te : DE} (hc : X.calm = true) (hN : X.N.Nodup) (hy : X.N[i]? = some y) (hyl : X.env.scope.names.lookup y = some .local)
    (hsw : swapsWith (.ListComp elt [⟨tg, iter, ifs, 0⟩] scope pos) (some (.Name y py)) spos.line X.env = pure true) (hi : PDI X E tg iter di) (ok : BlkOk X.N X.env.scope scope own)
    (B : BlkP X E scope (own.map (·.2)) tg elt ifs g tt te) (hs : ∀ x, foldedSetIterable iter X.env x = pure x := by intro _; rfl) : PDS X E (.Assign [.Name y py] (.ListComp elt [⟨tg, iter, ifs, 0⟩] scope pos) spos) (sAsg (dLcF di g tt te (own.map (·.2))) (gN i)) := by
  obtain ⟨g0, c0, l0, p0⟩ := B.g
  refine ⟨imS (ps_frzN (ps_setLc (te := eL (up (kt X E) noE te)) (tt := tL (upT (kt X E) noE tt)) hc hN hy hyl hsw hi.pi ok (fun s H C cl fp => pg_L (p0 s H C cl fp)) (fun s H C cl fp => pts_L (B.t s H C cl fp).ts) (fun s H C cl fp => pe_L (B.e s H C cl fp).pe) hs)) fun Dn σ H ⟨δ, G, DD, sr, hr, h, cn, ct, cb, cc, cx⟩ => ?_⟩
  have z := up_lcF (Q := fun v H1 => Dn.nx (σ.set i (some v)) H1) c0 l0 ⟨δ, G, _, DD.ex, sr, hr, h, fun v H1 d G1 u1 h1 r1 q1 => cn _ _ _ _ u1 ((sr.up u1).set r1) h1 q1, cx⟩
  exact z
end
end Cc
/-! ### operators whose new lists are read as values; sorting of lists and tuples -/
namespace PySem.W
open PySem PySem.Spec PyProof.Rows
section
variable {prog : Program} {w : World} {A : Around} {E : Value → Shared → Prop} {s : Shared}
theorem cc_collect {T : String} {l : Addr} {o : Obj} {vs : List Value} {n : Nat} {Q : List Value → Shared → Prop} (hT : T = "list" ∨ T = "tuple") (ho : s.heap.get? l = some o) (hc : o.cls = .type T) (hd : o.data = .seq vs.toArray n)
    (h : Q vs { s with heap := (s.heap.push (seqObj "list" #[] 0)).update s.heap.objs.size (Obj.mapSeq (· ++ vs.toArray)) }) (hsz : vs.length ≤ sizeLine) :
    wpAny (model prog w) A (collect (.ref l)) Q E s := by
  unfold collect
  refine wpAny_bind (wpAny_runValue (codeAny_builtin entry_proto_collect' ?_))
  show wpAny _ _ (do again (.builtin "list.__iadd__" ⟨[← newList [], .ref l], []⟩)) _ _ s
  refine wpAny_bind (wpAny_newList (wpAny_pure ⟨Code.quiet_builtin _ (by decide +kernel), codeAny_builtin entry_list_iadd' ?_⟩))
  show wpAny _ _ (Builtin.List.listExtendWith (.ref s.heap.objs.size) (.ref l) (.ref s.heap.objs.size)) _ _ { s with heap := s.heap.push (seqObj "list" #[] 0) }
  unfold Builtin.List.listExtendWith
  have ho' : (s.heap.push (seqObj "list" #[] 0)).get? l = some o := Heap.get?_push_of_some _ ho
  refine wpAny_bind (wpAny_typeOf (T := T) ⟨o, ho', hc⟩ ?_)
  rw [if_pos (by rcases hT with rfl | rfl <;> simp)]
  refine wpAny_bind (listItems_at ho' hd ?_)
  refine wpAny_bind (listItems_at (xs := #[]) (n := 0) (Heap.get?_push_size _ rfl) rfl ?_)
  rw [if_neg (by simp)]
  refine wpAny_bind (listUpdate_at (xs := #[]) (n := 0) (Heap.get?_push_size _ rfl) rfl ?_ (Nat.zero_le _) (by show (#[] ++ vs.toArray).size ≤ sizeLine + 1; simp only [Array.size_append, List.size_toArray, List.length_nil]; omega))
  refine wpAny_pure ?_
  show wpAny (model prog w) A (do
      let o ← load s.heap.objs.size
      match o.data with
      | .seq xs _ => pure xs.toList
      | _ => unsupported "internal:collect") Q E { s with heap := (s.heap.push (seqObj "list" #[] 0)).update s.heap.objs.size (Obj.mapSeq (· ++ vs.toArray)) }
  refine wpAny_bind (wpAny_load (get?_update_seq (Heap.get?_push_size _ rfl) _) ?_)
  show wpAny _ _ (pure ((#[] : Array Value) ++ vs.toArray).toList) Q E _
  rw [show ((#[] : Array Value) ++ vs.toArray).toList = vs by simp]
  exact wpAny_pure h
theorem cc_sorted {T : String} {l : Addr} {o : Obj} {vs : List Value} {n : Nat} {kw : List (Str × Value)} {Q : Value → Shared → Prop} (hT : T = "list" ∨ T = "tuple") (ho : s.heap.get? l = some o) (hc : o.cls = .type T) (hd : o.data = .seq vs.toArray n)
    (hL : vs.length ≤ sizeLine) (ha1 : argsOk "sorted" ⟨[.ref l], kw⟩) (ha2 : ∀ x, argsOk "list.sort" ⟨[.ref x], kw⟩)
    (body : ∀ E' : Value → Shared → Prop, wpAny (model prog w) A.in1.in1 (Builtin.«list.sort» ⟨[.ref (s.heap.objs.size + 1)], kw⟩) (fun f s' => f = .done (.ret .none) ∧ Q (.ref (s.heap.objs.size + 1)) s') E' { s with heap := copyHeap s.heap vs }) :
    wpAny (model prog w) A (call (.builtin "sorted") [.ref l] kw) Q E s := by
  refine call_function_entry_kw kind_sorted plain_sorted entry_sorted ha1 ?_
  unfold Builtin.«sorted»
  refine wpAny_bind (m := checkCount "sorted" 1 1 _) (wpAny_pure ?_)
  refine wpAny_bind (cc_collect hT ho hc hd ?_ hL)
  refine wpAny_bind (wpAny_newList ?_ hL)
  have hsz : ((s.heap.push (seqObj "list" #[] 0)).update s.heap.objs.size (Obj.mapSeq (· ++ vs.toArray))).objs.size = s.heap.objs.size + 1 := by
    rw [Heap.size_update, size_push']
  show wpAny _ _ _ _ _ { s with heap := copyHeap s.heap vs }
  rw [hsz]
  refine wpAny_bind (wpAny_holding (wpAny_call_entry_kw slot_list_sort ⟨_, copyHeap_at s.heap vs, rfl⟩ entry_list_sort ?body (ha2 _)))
  case body =>
    show wpAny (model prog w) A.in1.in1 (Builtin.«list.sort» ⟨[.ref (s.heap.objs.size + 1)], kw⟩) _ _ _
    refine wpAny_mono (body _) (fun f s' hf => ?_) fun _ _ e => e
    obtain ⟨rfl, hq⟩ := hf
    exact ⟨_, rfl, wpAny_pure ⟨_, rfl, hq⟩⟩
variable {β : Type} {vs : List Value} {bs : List β} {R : Value → β → Prop} {enc : β → PyData}
theorem cc_sorted_data {T : String} {l : Addr} {o : Obj} {n : Nat} {Q : Value → Shared → Prop} (hT : T = "list" ∨ T = "tuple") (ho : s.heap.get? l = some o) (hc : o.cls = .type T) (hd : o.data = .seq vs.toArray n) (e : EachIs R vs bs) (er : EachIs (fun v b => ∃ as, Reads s.heap v (enc b) as) vs bs) (hal : AllAlike (bs.map enc)) (hk : Sortable (bs.map enc)) (hL : bs.length ≤ sizeLine)
    (hu : ∀ b, b ∈ bs → A.units + 2 + (enc b).depth < cLine) (h : ∀ out, out.length = bs.length → EachIs R out (bs.mergeSort (dataLe false enc)) → Q (.ref (s.heap.objs.size + 1)) { s with heap := sortedAll s.heap vs (List.toArray out) }) :
    wpAny (model prog w) A (call (.builtin "sorted") [.ref l]) Q E s := by
  have er' : EachIs (fun v b => ∃ as, Reads (sortingHeap (copyHeap s.heap vs) (s.heap.objs.size + 1) vs) v (enc b) as) vs bs := er.mono fun _ _ ⟨as, r⟩ => ⟨as, PyProof.Rows.Reads.keeps (fun _ _ => sorting_copy_old) r⟩
  have S := SortsAt.data (prog := prog) (w := w) (A := A.in1.in1) (s := { s with heap := sortingHeap (copyHeap s.heap vs) (s.heap.objs.size + 1) vs }) (each_map (R := fun v d => ∃ as, Reads (sortingHeap (copyHeap s.heap vs) (s.heap.objs.size + 1) vs) v d as) enc er') hal hk (bound_map hu)
  refine cc_sorted hT ho hc hd (by rw [e.length]; exact hL) (args_sorted1 _) (fun _ => args_list_sort _) fun _ => list_sort_vals (s := { s with heap := copyHeap s.heap vs }) (copyHeap_at s.heap vs) S (by rw [e.length]; exact hL) ⟨rfl, ?_⟩
  exact h _ (by rw [sortVals_length false rfl]; exact e.length) (sortVals_data false e er' hal)
theorem cc_sorted_key {T : String} {l : Addr} {o : Obj} {n : Nat} {f : Value} {kw : List (Str × Value)} {b : Bool} {Q : Value → Shared → Prop} (k : β → PyData) (hT : T = "list" ∨ T = "tuple") (ho : s.heap.get? l = some o) (hc : o.cls = .type T) (hd : o.data = .seq vs.toArray n) (e : EachIs R vs bs) (hal : AllAlike (bs.map k)) (hk : Sortable (bs.map k)) (hL : bs.length ≤ sizeLine)
    (hu : ∀ x, x ∈ bs → A.units + 2 + (k x).depth < cLine) (ha1 : argsOk "sorted" ⟨[.ref l], kw⟩) (ha2 : ∀ x, argsOk "list.sort" ⟨[.ref x], kw⟩) (ht : ∀ x, Builtin.«list.sort» ⟨[.ref x], kw⟩ = ksk_tree x f b)
    (turn : ∀ (v : Value) (x : β), R v x → x ∈ bs → ∀ (h : Heap) (tk : Nat), (∀ b o, s.heap.get? b = some o → h.get? b = some o) →
      wpAny (model prog w) A.in1.in1 (call f [v]) (KeyPure (k x) { s with heap := h, toks := tk }) (fun _ _ => False) { s with heap := h, toks := tk })
    (h : ∀ out c h' tk, (∀ b o, s.heap.get? b = some o → h'.get? b = some o) → s.heap.get? (s.heap.objs.size + 1) = none → h'.get? (s.heap.objs.size + 1) = some (seqObj "list" (List.toArray out) c) → out.length = bs.length → EachIs R out (bs.mergeSort (dataLe b k)) →
      Q (.ref (s.heap.objs.size + 1)) { s with heap := h', toks := tk }) :
    wpAny (model prog w) A (call (.builtin "sorted") [.ref l] kw) Q E s := by
  have fresh : s.heap.get? (s.heap.objs.size + 1) = none := Heap.get?_none_of_le (Nat.le_succ _)
  have up : ∀ {g : Heap}, KeepsBut (s.heap.objs.size + 1) (copyHeap s.heap vs) g → ∀ b o, s.heap.get? b = some o → g.get? b = some o := fun {g} kp b o q =>
    kp b o (Nat.ne_of_lt (Nat.lt_succ_of_lt (Heap.lt_size q))) (copyHeap_old q)
  refine cc_sorted hT ho hc hd (by rw [e.length]; exact hL) ha1 ha2 fun E' => ?_
  rw [ht]
  refine keyH_tree (kz := bs.map k) (s := { s with heap := copyHeap s.heap vs }) (copyHeap_at s.heap vs) (by rw [List.length_map]; exact e.length.symm) (by rw [e.length]; exact hL) hal hk (bound_map (A := A.in1.in1) hu)
    (keyH_turns (s := { s with heap := copyHeap s.heap vs }) e fun v x hR hx h tk kp => turn v x hR hx h tk (up kp)) fun h' tk out c kp hD ko => ⟨rfl, ?_⟩
  exact h out c h' tk (up kp) fresh hD ((ko.length (by rw [List.length_map]; exact e.length.symm)).trans e.length) (keyedOut_each k ko e)
end
end PySem.W
namespace Cc
open PySem PySem.Spec PyProof.Rows L2
open PySem.W (EachIs AllAlike Sortable dataLe KeyPure kla_obj kla_fn envX)
/-! new lists as values: by values -/
theorem fzv_new {R : DK} {l : List D} {G : DH} (h : R (.rol l) G) : ∀ p, G p = none → fzv R (.ref p) (updD G p (.lst l)) := fun p hp => by
  unfold fzv
  dsimp only
  rw [updD_same]
  show R (.rol l) (delD (updD G p (.lst l)) p)
  rw [delD_updD hp]
  exact h
theorem fzv_newK {R : DK} {l : List (Key × D)} {G : DH} (h : R (.rod l) G) : ∀ p, G p = none → fzv R (.ref p) (updD G p (.dK l)) := fun p hp => by
  unfold fzv
  dsimp only
  rw [updD_same]
  show R (.rod l) (delD (updD G p (.dK l)) p)
  rw [delD_updD hp]
  exact h
theorem fzv_of {R : DK} {v : D} {G : DH} (n : ∀ p, v ≠ .ref p) (h : R v G) : fzv R v G := by
  unfold fzv
  split
  · exact absurd rfl (n _)
  · exact h
section
variable {X : Cx}
theorem od_frz {f : Value → Value → Sem Value} {r2 s2 : D2} (h : OD X f r2) (k : ∀ d e G R, s2 d e G R → r2 d e G (fzv R)) : OD X f s2 := by
  obtain ⟨r, h1, h2⟩ := h
  refine ⟨fun x y H Q => r x y H (fun v H1 => Q v H1 ∨ ∃ d u, H1 d = some u ∧ Mut (some u) ∧ ∀ od, Q v (upd H1 d (.frz od u))), fun pins s σ H x y v u Q I rx ry q => ?_, fun T x y H d e G R Q hr rx ry q cr => h2 T x y H d e G _ _ hr rx ry (k _ _ _ _ q) (clo_fz cr)⟩
  refine thn (h1 pins s σ H x y v u _ I rx ry q) fun b s1 ⟨z, H1, I1, rz, q1⟩ => ?_
  rcases q1 with q1 | ⟨d, o, e1, mu, q1⟩
  · exact ⟨z, H1, I1, rz, q1⟩
  · obtain ⟨od, I2⟩ := I1.lock e1 mu
    exact ⟨z, _, I2, rz, q1 od⟩
theorem cd_frz {f : Value} {r2 s2 : DC} (h : CD X f r2) (k : ∀ ds G R, s2 ds G R → r2 ds G (fzv R)) : CD X f s2 := by
  obtain ⟨r, h1, h2⟩ := h
  refine ⟨fun xs H Q => r xs H (fun v H1 => Q v H1 ∨ ∃ d u, H1 d = some u ∧ Mut (some u) ∧ ∀ od, Q v (upd H1 d (.frz od u))), fun pins s σ H xs us Q I rx q => ?_, fun T x H d G R Q hr rx q cr => h2 T x H d G _ _ hr rx (k _ _ _ q) (clo_fz cr)⟩
  refine thn (h1 pins s σ H xs us _ I rx q) fun b s1 ⟨z, H1, I1, rz, q1⟩ => ?_
  rcases q1 with q1 | ⟨d, o, e1, mu, q1⟩
  · exact ⟨z, H1, I1, rz, q1⟩
  · obtain ⟨od, I2⟩ := I1.lock e1 mu
    exact ⟨z, _, I2, rz, q1 od⟩
theorem cd_imp {f : Value} {r2 s2 : DC} (h : CD X f r2) (k : ∀ ds G R, s2 ds G R → r2 ds G R) : CD X f s2 := by
  obtain ⟨r, h1, h2⟩ := h
  exact ⟨r, h1, fun T x H d G R Q hr rx q cr => h2 T x H d G _ _ hr rx (k _ _ _ q) cr⟩
end
end Cc
/-! ### operators, built-ins: lists as values -/
namespace Cc
open PySem PySem.Spec PyProof.Rows L2
open PySem.W (EachIs AllAlike Sortable dataLe KeyPure kla_obj kla_fn envX)
section
variable {X : Cx} {pins : List (Addr × Obj)} {σ : L2.St} {H : Hp} {s : Shared} {l : Addr} {xs : List V}
theorem rdM (I : Inv X pins σ H s) (hH : Rd H l (.lst xs)) : xs.length ≤ sizeLine ∧ ∃ (its : List Value) (n : Nat), Vals xs its ∧ xs.length = its.length ∧ s.heap.get? l = some { cls := .type "list", data := .seq its.toArray n } := by
  obtain ⟨z, its, n, r, e⟩ := hH.ok I.hok
  exact ⟨z, its, n, r, r.length, e⟩
def rCatR : R2 := fun x y H Q => ∃ l b xs zs, x = .ref l ∧ y = .ref b ∧ Rd H l (.lst xs) ∧ Rd H b (.lst zs) ∧ xs.length + zs.length ≤ sizeLine ∧ ∀ p, H p = none → Q (.ref p) (upd H p (.lst (xs ++ zs)))
theorem op_catR : OpR X (binaryOp .Add) rCatR := by
  intro pins s σ H x y v u Q I rx ry h
  obtain ⟨l, b, xs, zs, rfl, rfl, hH, hB, hz, q⟩ := h
  cases rx
  cases ry
  obtain ⟨z, its, n, r, hl, e⟩ := rdM I hH
  obtain ⟨z2, its2, n2, r2, hl2, e2⟩ := rdM I hB
  refine PySem.P.add_list e e2 ?_ (by rw [List.size_toArray, List.size_toArray]; omega)
  have ea : its.toArray ++ its2.toArray = (its ++ its2).toArray := by simp
  rw [ea]
  exact ⟨.ref _, _, I.lnew (t' := s.toks) (r.append r2) (by rw [List.length_append]; omega), rfl, q _ I.fresh⟩
def rRepR : R2 := fun x y H Q => ∃ l k xs, x = .ref l ∧ y = .int k ∧ Rd H l (.lst xs) ∧ -(2 ^ 63) ≤ k ∧ k < 2 ^ 63 ∧ xs.length * k.toNat ≤ sizeLine ∧
  ∀ p, H p = none → Q (.ref p) (upd H p (.lst (List.replicate k.toNat xs).flatten))
theorem op_repR : OpR X (binaryOp .Mult) rRepR := by
  intro pins s σ H x y v u Q I rx ry h
  obtain ⟨l, k, xs, rfl, rfl, hH, h1, h2, hz, q⟩ := h
  cases rx
  obtain ⟨t, rfl⟩ := ry
  obtain ⟨z, its, n, r, hl, e⟩ := rdM I hH
  have hlen : its.toArray.size * k.toNat ≤ sizeLine := by rw [List.size_toArray, ← hl]; exact hz
  have hcap : ¬ its.toArray.size * k.toNat > (2 ^ 63 - 1) / 8 := by
    have : (sizeLine : Nat) ≤ (2 ^ 63 - 1) / 8 := by decide
    omega
  have hfit : ¬ (!Builtin.List.listFitsIndex k) = true := by
    rw [fitsIndex_both h1 h2]
    exact Bool.false_ne_true
  have hlong : ¬ Builtin.List.listTooLong (its.toArray.size * k.toNat) = true := by
    rw [notLongL hlen]
    exact Bool.false_ne_true
  have hnew : List.foldl (fun x1 x2 => x1 ++ x2) #[] (List.replicate (if its.toArray.isEmpty = true then 0 else k.toNat) its.toArray) = (List.replicate k.toNat its).flatten.toArray := by
    have f0 : ∀ m : Nat, List.foldl (fun x1 x2 => x1 ++ x2) #[] (List.replicate m its.toArray) = (List.replicate m its).flatten.toArray := fun m => by
      have := foldl_rep its m []
      rw [List.nil_append] at this
      exact this
    rw [f0]
    cases its with
    | nil => simp
    | cons a r' => rw [if_neg (by simp)]
  refine wpAny_binaryOp_repeat_ref (T := "list") (U := "int") (by decide) ⟨_, e, rfl⟩ (fun s' => typeIs_int s' k t) noFill_list_mul F.fills_int_mul F.slot_int_rmul repeat_list F.slot_int_index.lookup
    (call_meets F.slot_int_rmul (typeIs_int s k t) F.entry_int_rmul (F.args_int_rmul_2 _ _) (int___rmul___int_list k t l its.toArray n)
      ⟨e, rfl, ⟨_, e, rfl⟩, call_meets F.slot_list_mul ⟨_, e, rfl⟩ F.entry_list_mul (F.args_list_mul_2 _ _) (AutoListH.list___mul___list_int_3 l its.toArray n k t hfit hcap hlong) ⟨e, ?_⟩⟩)
  rw [hnew]
  exact ⟨.ref _, _, I.lnew (t' := s.toks) (r.rep k.toNat) (by rw [PyProof.Rows.lm_len_rep_flat, Nat.mul_comm]; exact hz), rfl, q _ I.fresh⟩
def rExtendR : V → List V → Hp → VK → Prop := fun x vs H Q => ∃ l b xs zs, x = .ref l ∧ vs = [.ref b] ∧ H l = some (.lst xs) ∧ Rd H b (.lst zs) ∧ xs.length + zs.length ≤ sizeLine ∧ Q .non (upd H l (.lst (xs ++ zs)))
theorem mt_extendR : MtM X "list.extend" rExtendR := by
  intro pins s σ H x vs v us Q I rx rv h
  obtain ⟨l, b, xs, zs, rfl, rfl, hH, hB, hz, q⟩ := h
  cases rx
  obtain ⟨u, rfl, ru⟩ := rv.one
  cases ru
  obtain ⟨z, its, n, r, hl, e⟩ := I.lstM hH
  obtain ⟨z2, its2, n2, r2, hl2, e2⟩ := rdM I hB
  have hsz : its.toArray.size + its2.toArray.size ≤ sizeLine := by rw [List.size_toArray, List.size_toArray]; omega
  have hlong : ¬ (!its.toArray.isEmpty && Builtin.List.listTooLong (its.toArray.size + its2.toArray.size)) = true := by
    rw [notLongL hsz, Bool.and_false]
    exact Bool.false_ne_true
  refine call_meets F.slot_list_extend ⟨_, e, rfl⟩ F.entry_list_extend (F.args_list_extend_2 _ _)
    (AutoSeq1.list_extend_list_list_0 l its.toArray n b its2.toArray n2 hlong (by rw [List.size_toArray]; omega) (by omega)) ⟨e, e2, ?_⟩
  refine ⟨.non, _, I.lset (its' := its ++ its2) hH e (by simp) (r.append r2) ?_, rfl, q⟩
  rw [List.length_append]
  omega
def rSortS (K : PySem.W.Frag) : List V → Hp → VK → Prop := fun vs H Q => ∃ (a : Addr) (bs : List (V × PyData)), vs = [V.ref a] ∧ (SqL K H a (bs.map Prod.fst) ∨ SqT K H a (bs.map Prod.fst)) ∧ (∀ b ∈ bs, Dp K H b.1 b.2) ∧ AllAlike (bs.map Prod.snd) ∧ Sortable (bs.map Prod.snd) ∧ (∀ b ∈ bs, b.2.depth ≤ 40) ∧
  bs.length ≤ sizeLine ∧ ∀ p, H p = none → Q (.ref p) (upd H p (.lst (sortV bs)))
theorem cr_sortS (hu : X.A.units + 42 < cLine) : CallR X (.builtin "sorted") (rSortS X.K) := by
  intro pins s σ H vs us Q I r h
  obtain ⟨a, bs, rfl, hs, hd, hal, hk, hdep, hz, q⟩ := h
  have hq : ∃ (T : String) (its : List Value) (o : Obj) (n : Nat), (T = "list" ∨ T = "tuple") ∧ Vals (bs.map Prod.fst) its ∧ s.heap.get? a = some o ∧ o.cls = .type T ∧ o.data = .seq its.toArray n := by
    rcases hs with hs | hs
    · obtain ⟨its, rv, ⟨o, n, e1, e2, _, e3⟩, _⟩ := I.list hs
      exact ⟨"list", its, o, n, .inl rfl, rv, e1, e2, e3⟩
    · obtain ⟨its, rv, ⟨o, e1, e2, n, e3⟩, _⟩ := I.tuple hs
      exact ⟨"tuple", its, o, n, .inr rfl, rv, e1, e2, e3⟩
  obtain ⟨T, its, o, n, hT, rv, e1, e2, e3⟩ := hq
  rw [Vals.ref1 r]
  refine PySem.W.cc_sorted_data (R := fun v (b : V × PyData) => RelV b.1 v) (enc := Prod.snd) hT e1 e2 e3 (each_of_vals rv fun b _ v r => r) (each_of_vals rv fun b hb v r => Dp.reads I b.2 b.1 v (hd b hb) r) hal hk hz (fun b hb => by have := hdep b hb; omega) fun out ho eo => ?_
  obtain ⟨ep, he'⟩ := PyProof.Rows.sortedAll_at s.heap its out.toArray
  have hlen : (sortV bs).length ≤ sizeLine := by unfold sortV; rw [List.length_map, List.length_mergeSort]; exact hz
  refine ⟨.ref _, upd H (s.heap.objs.size + 1) (.lst (sortV bs)), I.laid (t' := s.toks) (fun _ _ => PyProof.Rows.sortedAll_old) (Nat.le_succ _) ⟨hlen, out, ep, vals_of_each eo, he'⟩, rfl, q _ (I.hok.fresh (Nat.le_succ _))⟩
end
theorem lstOf_rd {K : KT} {G : DH} {H : Hp} {v : V} {y : D} {l : List D} (hr : HRel K G H) (r : Dv K H v y) (e : lstOf G y = some l) : ∃ p xs, v = .ref p ∧ Rd H p (.lst xs) ∧ DvL K H xs l := by
  unfold lstOf at e
  split at e
  · cases r
    split at e
    · rename_i a l' ea
      cases e
      obtain ⟨xs, e1, r1⟩ := hr _ _ ea
      exact ⟨_, _, rfl, .inl e1, r1⟩
    · cases e
  · cases e
    cases r with
    | rol hq r =>
      obtain ⟨o, hq⟩ := hq
      exact ⟨_, _, rfl, .inr ⟨o, hq⟩, r⟩
  · cases e
theorem Dv.as_tup {K : KT} {H : Hp} {v : V} {d : D} {l : List D} (h : Dv K H v d) (e : d.tl = some l) : Dv K H v (.tup l) := by
  obtain ⟨a, xs, rfl, h1, h2⟩ := h.sqT e
  exact .tup h1 h2
section
variable {X : Cx}
def dAddF : D2 := fun x y G R => match x, y with
  | .int i, .int j => R (.int (i + j)) G
  | .str s, .str t => s.length + t.length ≤ sizeLine ∧ R (.str (s ++ t)) G
  | x, y => match x.tl, y.tl with
    | some l, some m => l.length + m.length ≤ sizeLine ∧ R (.tup (l ++ m)) G
    | _, _ => match lstOf G x, lstOf G y with
      | some l, some m => l.length + m.length ≤ sizeLine ∧ R (.rol (l ++ m)) G
      | _, _ => False
def dAdd0 : D2 := fun x y G R => match lstOf G x, lstOf G y with
  | some l, some m => l.length + m.length ≤ sizeLine ∧ ∀ n, G n = none → R (.ref n) (updD G n (.lst (l ++ m)))
  | _, _ => False
theorem od_add0 : OD X (binaryOp .Add) dAdd0 := by
  refine ⟨_, op_catR, fun T x y H d e G R Q hr rx ry q cr => ?_⟩
  unfold dAdd0 at q
  split at q
  · rename_i l m e1 e2
    obtain ⟨p, xs, rfl, a1, a2⟩ := lstOf_rd hr rx e1
    obtain ⟨b, ys, rfl, b1, b2⟩ := lstOf_rd hr ry e2
    exact ⟨_, _, xs, ys, rfl, rfl, a1, b1, by rw [a2.length, b2.length]; exact q.1, fun p hp => cr _ _ _ _ (Up.new hp) (hr.new (c := .lst (l ++ m)) hp ⟨_, upd_same, (a2.append b2).up (Up.new hp)⟩) (.ref p) (q.2 p (hr.none hp))⟩
  · exact False.elim q
theorem od_or {f : Value → Value → Sem Value} {r s : D2} (h : OD X f r) (h' : OD X f s) : OD X f (fun x y G R => r x y G R ∨ s x y G R) := by
  obtain ⟨a, b, c⟩ := h
  obtain ⟨a', b', c'⟩ := h'
  exact ⟨_, b.or b', fun T => (c T).or (c' T)⟩
theorem od_imp {f : Value → Value → Sem Value} {r s : D2} (h : OD X f r) (k : ∀ d e G R, s d e G R → r d e G R) : OD X f s := by
  obtain ⟨a, b, c⟩ := h
  exact ⟨_, b, fun T => (c T).imp k⟩
/-- a value may be read as another one -/
theorem od_reread {f : Value → Value → Sem Value} {r s : D2} (h : OD X f r) (k : ∀ d e G R, s d e G R → ∃ R', r d e G R' ∧ ∀ (K : KT) H v z G', Dv K H v z → R' z G' → ∃ z', Dv K H v z' ∧ R z' G') : OD X f s := by
  obtain ⟨a, b, c⟩ := h
  refine ⟨_, b, fun T x y H d e G R Q hr rx ry q cr => ?_⟩
  obtain ⟨R', q', kk⟩ := k _ _ _ _ q
  refine c T x y H d e G R' Q hr rx ry q' fun v H' z G' u hr' dv qz => ?_
  obtain ⟨z', dz, qz'⟩ := kk _ _ _ _ _ dv qz
  exact cr v H' z' G' u hr' dz qz'
theorem od_addF : OD X (binaryOp .Add) dAddF := by
  refine od_reread (od_or (od_frz od_add0 (s2 := fun x y G R => match lstOf G x, lstOf G y with
    | some l, some m => l.length + m.length ≤ sizeLine ∧ R (.rol (l ++ m)) G
    | _, _ => False) fun d e G R q => ?_) od_add) fun d e G R q => ?_
  · unfold dAdd0
    split at q
    · exact ⟨q.1, fzv_new q.2⟩
    · exact q.elim
  · unfold dAddF at q
    split at q
    · exact ⟨R, .inr q, fun K H v z G' a b => ⟨z, a, b⟩⟩
    · exact ⟨R, .inr q, fun K H v z G' a b => ⟨z, a, b⟩⟩
    · split at q
      · rename_i l m e1 e2
        refine ⟨fun z G' => z.tl = some (l ++ m) ∧ R (.tup (l ++ m)) G', .inr ?_, fun K H v z G' a b => ⟨_, a.as_tup b.1, b.2⟩⟩
        unfold dAdd
        split
        · cases e1
        · cases e1
        · cases e1
        · rw [e1, e2]
          refine ⟨q.1, fun h => ⟨by rw [h]; exact e2, q.2⟩, fun _ h => ⟨by rw [h, List.append_nil]; exact e1, q.2⟩, fun _ _ => ⟨rfl, q.2⟩⟩
      · exact ⟨R, .inl q, fun K H v z G' a b => ⟨z, a, b⟩⟩
def dMulF : D2 := fun x y G R => match x, y with
  | .int i, .int j => CMul i j ∧ R (.int (i * j)) G
  | x, .int k => (match lstOf G x with
    | some l => -(2 ^ 63) ≤ k ∧ k < 2 ^ 63 ∧ l.length * k.toNat ≤ sizeLine ∧ R (.rol (List.replicate k.toNat l).flatten) G
    | none => False)
  | _, _ => False
def dMul0 : D2 := fun x y G R => match y with
  | .int k => (match lstOf G x with
    | some l => -(2 ^ 63) ≤ k ∧ k < 2 ^ 63 ∧ l.length * k.toNat ≤ sizeLine ∧ ∀ n, G n = none → R (.ref n) (updD G n (.lst (List.replicate k.toNat l).flatten))
    | none => False)
  | _ => False
theorem od_mul0 : OD X (binaryOp .Mult) dMul0 := by
  refine ⟨_, op_repR, fun T x y H d e G R Q hr rx ry q cr => ?_⟩
  unfold dMul0 at q
  split at q
  · split at q
    · rename_i l e1
      cases ry
      obtain ⟨p, xs, rfl, a1, a2⟩ := lstOf_rd hr rx e1
      obtain ⟨h1, h2, z, q⟩ := q
      exact ⟨_, _, xs, rfl, rfl, a1, h1, h2, by rw [a2.length]; exact z, fun p hp => cr _ _ _ _ (Up.new hp) (hr.new (c := .lst _) hp ⟨_, upd_same, (a2.rep _).up (Up.new hp)⟩) (.ref p) (q p (hr.none hp))⟩
    · exact q.elim
  · exact False.elim q
theorem od_mulF : OD X (binaryOp .Mult) dMulF := by
  refine od_imp (od_or (od_frz od_mul0 (s2 := fun x y G R => match y with
    | .int k => (match lstOf G x with
      | some l => -(2 ^ 63) ≤ k ∧ k < 2 ^ 63 ∧ l.length * k.toNat ≤ sizeLine ∧ R (.rol (List.replicate k.toNat l).flatten) G
      | none => False)
    | _ => False) fun d e G R q => ?_) od_mul) fun d e G R q => ?_
  · unfold dMul0
    split at q
    · split at q
      · exact ⟨q.1, q.2.1, q.2.2.1, fzv_new q.2.2.2⟩
      · exact q.elim
    · exact q.elim
  · unfold dMulF at q
    split at q
    · exact .inr q
    · exact .inl q
    · exact q.elim
/-! list, tuple, sorted, all, len -/
def dListF : DC := fun xs G R => match xs with
  | [x] => (match seqOf G x with
    | some l => R (.rol l) G
    | none => False)
  | _ => False
theorem cd_listF : CD X (.type "list") dListF := cd_frz cd_list fun ds G R q => by
  unfold dListF at q
  unfold dListC
  split at q
  · split at q
    · rename_i l e
      first
        | exact fzv_new q
        | (rw [e]; exact fzv_new q)
        | (dsimp only; rw [e]; exact fzv_new q)
    · exact q.elim
  · exact q.elim
def dSorted0 : DC := fun xs G R => match xs with
  | [x] => ∃ l ts, seqOf G x = some l ∧ RddL G l ts ∧ AllAlike ts ∧ Sortable ts ∧ (∀ t ∈ ts, t.depth ≤ 40) ∧ l.length ≤ sizeLine ∧ ∀ p, G p = none → R (.ref p) (updD G p (.lst (sortD l ts)))
  | _ => False
def dSortedF : DC := fun xs G R => match xs with
  | [x] => ∃ l ts, seqOf G x = some l ∧ RddL G l ts ∧ AllAlike ts ∧ Sortable ts ∧ (∀ t ∈ ts, t.depth ≤ 40) ∧ l.length ≤ sizeLine ∧ R (.rol (sortD l ts)) G
  | _ => False
theorem cd_sorted0 (hu : X.A.units + 64 < cLine) : CD X (.builtin "sorted") dSorted0 := ⟨_, cr_sortS (by omega), fun T x H d G R Q hr r q cr => by
  unfold dSorted0 at q
  split at q
  · cases r with
    | cons r1 r2 =>
      cases r2
      obtain ⟨l, ts, e, rd, hal, hk, hdep, hz, q⟩ := q
      obtain ⟨p, xs, rfl, hq, rl⟩ := seqOf_sq hr r1 e
      have hl : xs.length = ts.length := rl.length.trans rd.len
      have e1 : (xs.zip ts).map Prod.fst = xs := List.map_fst_zip (by omega)
      have e2 : (xs.zip ts).map Prod.snd = ts := List.map_snd_zip (by omega)
      refine ⟨p, xs.zip ts, rfl, by rw [e1]; exact hq, dpAll_at (RddL.dp hr rd rl), by rw [e2]; exact hal, by rw [e2]; exact hk, fun b hb => hdep _ (by rw [← e2]; exact List.mem_map.mpr ⟨b, hb, rfl⟩), by rw [List.length_zip, rl.length]; omega, fun n hn => ?_⟩
      have un := Up.new (o := .lst (sortV (xs.zip ts))) hn
      refine cr _ _ _ _ un (hr.new (c := .lst (sortD l ts)) hn ⟨sortV (xs.zip ts), upd_same, ?_⟩) (.ref n) (q n (hr.none hn))
      have z := each_sort (le := dataLe false Prod.snd) (le' := dataLe false (Prod.snd : D × PyData → PyData)) (fun a b c d h1 h2 => by
        show PySem.W.dataLe false (fun t : PyData => t) a.2 c.2 = PySem.W.dataLe false (fun t : PyData => t) b.2 d.2
        rw [h1.2, h2.2]) (dvL_zip rl hl)
      exact (dvL_of_each z).up un
  · exact False.elim q⟩
theorem cd_sortedF (hu : X.A.units + 64 < cLine) : CD X (.builtin "sorted") dSortedF := cd_frz (cd_sorted0 hu) fun ds G R q => by
  unfold dSortedF at q
  split at q
  · obtain ⟨l, ts, a, b, c, d, e, f, q⟩ := q
    exact ⟨l, ts, a, b, c, d, e, f, fzv_new q⟩
  · exact q.elim
def dAllF : DC := fun xs G R => match xs with
  | [x] => ∃ bs : List Bool, lstOf G x = some (bs.map D.bl) ∧ R (.bl (bs.all id)) G
  | _ => False
theorem cd_allF (hc : X.calm = true) : CD X (.builtin "all") dAllF := ⟨_, cr_all hc, fun T x H d G R Q hr r q cr => by
  unfold dAllF at q
  split at q
  · cases r with
    | cons r1 r2 =>
      cases r2
      obtain ⟨bs, e, q⟩ := q
      obtain ⟨p, xs, rfl, h1, h2⟩ := lstOf_sq hr r1 e
      rw [dvl_bls h2] at h1
      exact ⟨_, bs, rfl, h1, cr _ _ _ _ (Up.refl H) hr (.bl _) q⟩
  · exact False.elim q⟩
/-! methods -/
def mExtendF : DM := fun x xs G R => match x, xs with
  | .ref a, [y] => ∃ l m, G a = some (.lst l) ∧ lstOf G y = some m ∧ l.length + m.length ≤ sizeLine ∧ R .non (updD G a (.lst (l ++ m)))
  | _, _ => False
theorem md_extendF : MD X "list.extend" mExtendF := ⟨_, mt_extendR, fun T x xs H d ds G R Q hr r rs q cr => by
  unfold mExtendF at q
  split at q
  · cases r
    cases rs with
    | cons r1 r2 =>
      cases r2
      obtain ⟨l, m, e1, e2, z, q⟩ := q
      obtain ⟨xs, a1, a2⟩ := hr _ _ e1
      obtain ⟨b, ys, rfl, b1, b2⟩ := lstOf_rd hr r1 e2
      have u : ∀ o, Up H (upd H _ o) := fun o => Up.put a1 trivial
      exact ⟨_, _, xs, ys, rfl, rfl, a1, b1, by rw [a2.length, b2.length]; exact z, cr _ _ _ _ (u _) (hr.put (c := .lst _) a1 trivial ⟨_, upd_same, (a2.append b2).up (u _)⟩) .non q⟩
  · exact False.elim q⟩
/-! slices -/
def sSlF : D → Option Int → Option Int → DH → DK → Prop := fun x lo hi G R => match x.tl with
  | some l => R (.tup (cutD l lo hi)) G
  | none => match lstOf G x with
    | some l => R (.rol (cutD l lo hi)) G
    | none => False
theorem cut_whole {l : List D} {lo hi : Option Int} (h : HT.sIx l.length 0 lo = 0 ∧ HT.sIx l.length l.length hi = l.length) : cutD l lo hi = l := by
  unfold cutD
  rw [h.1, h.2, List.drop_zero, Nat.sub_zero, List.take_length]
theorem sldF : SlD X sSlF := by
  have h1 : SlR X (rSlL X.K) := sl_list
  have h2 : SlR X (rSlA X.K) := sl_tupA
  refine ⟨fun x lo hi H Q => (rSlL X.K x lo hi H (fun v H1 => Q v H1 ∨ ∃ d u, H1 d = some u ∧ Mut (some u) ∧ ∀ od, Q v (upd H1 d (.frz od u)))) ∨ rSlA X.K x lo hi H Q, ?_, fun T x lo hi H d G R Q hr r q cr => ?_⟩
  · intro pins s σ H x v vl vu lo hi sl Q I rx hs pl pu h
    rcases h with h | h
    · obtain ⟨T, id, a, b, c⟩ := h1 pins s σ H x v vl vu lo hi sl _ I rx hs pl pu h
      refine ⟨T, id, a, b, thn c fun v s1 ⟨z, H1, I1, rz, q1⟩ => ?_⟩
      rcases q1 with q1 | ⟨d, o, e1, mu, q1⟩
      · exact ⟨z, H1, I1, rz, q1⟩
      · obtain ⟨od, I2⟩ := I1.lock e1 mu
        exact ⟨z, _, I2, rz, q1 od⟩
    · exact h2 pins s σ H x v vl vu lo hi sl Q I rx hs pl pu h
  · unfold sSlF at q
    split at q
    · rename_i l el
      obtain ⟨a, xs, h1, h2, h3⟩ := r.sqT el
      refine .inr ⟨a, xs, h1, h2, fun hw => ?_, fun hw p hp => ?_⟩
      · rw [h3.length] at hw
        subst h1
        rw [cut_whole hw] at q
        exact cr _ _ _ _ (Up.refl H) hr (r.as_tup el) q
      · exact cr _ _ _ _ (Up.new hp) (hr.new0 hp) (.tup (SqT.of upd_same) ((h3.cut lo hi).up (Up.new hp))) q
    · split at q
      · rename_i l el
        obtain ⟨a, xs, rfl, h2, h3⟩ := lstOf_rd hr r el
        have h2' : SqL X.K H a xs := by
          rcases h2 with h | ⟨o, h⟩
          · exact .inl (.inl h)
          · exact .inl (.inr ⟨o, h⟩)
        refine .inl ⟨a, xs, rfl, h2', fun p hp => clo_fz cr _ _ _ _ (Up.new hp) (hr.new (c := .lst _) hp ⟨_, upd_same, (h3.cut lo hi).up (Up.new hp)⟩) (.ref p) (fzv_new q p (hr.none hp))⟩
      · exact q.elim
end
/-! displays -/
def dLstF (dl : DA) : DE := fun δ G R EX => dl δ G (fun xs G1 => xs.length ≤ sizeLine ∧ R (.rol xs) G1) EX
section
variable {X : Cx} {E : EK} {es : List Expr} {pos : Pos} {dl : DA}
theorem pd_lstF (h : PDA X E es dl) : PD X E (.List es pos) (dLstF dl) :=
  ⟨imE (pe_frz (pe_lst h.pa)) fun σ H Q ⟨δ, G, R, EX, sr, hr, h, cr, cx⟩ => ⟨δ, G, _, EX, sr, hr, h, fun xs H1 l G1 u1 h1 r1 ⟨z, q1⟩ => ⟨by rw [r1.length]; exact z, fun p hp =>
    clo_fz cr _ _ _ _ (u1.trans (Up.new hp)) (h1.new (c := .lst l) hp ⟨xs, upd_same, r1.up (Up.new hp)⟩) (.ref p) (fzv_new q1 p (h1.none hp))⟩, cx⟩⟩
end
end Cc
/-! ### sorted(a list or tuple, key = a lambda), read as a value -/
namespace Cc
open PySem PySem.Spec PyProof.Rows L2
open PySem.W (EachIs AllAlike Sortable dataLe KeyPure kla_obj kla_fn envX)
def dSortGF {κ : Type} (enc : κ → PyData) (kf : D → Option κ) (da : DE) : DE := fun δ G R EX => da δ G (fun x G1 => ∃ (l : List D) (ks : List κ), seqOf G1 x = some l ∧ l.map kf = ks.map some ∧ l.length ≤ sizeLine ∧ R (.rol (sortG enc l ks)) G1) EX
section
variable {X : Cx} {E : EK} {e : Expr} {de : DE} {p pos lp kp : Pos} {params : Arguments} {body : Expr} {scope : Scope} {x : Str} {κ : Type} {enc : κ → PyData} {kf : D → Option κ} {c P : Addr} {j : Nat}
theorem pd_sortGF (KB : KeyBody x body enc kf) (hal : ∀ a b, PySem.W.alike (enc a) (enc b) = true) (hsk : (∀ b, ∃ y r, enc b = .tuple (y :: r)) ∨ ∀ b, enc b ≠ .none ∧ ∀ xs, enc b ≠ .tuple xs) (hdep : ∀ b, (enc b).depth ≤ 1) (hkf : ∀ d k, kf d = some k → ∃ l, d.tl = some l)
    (TB : LamX.TabB X.base X.mg c P) (hcode : X.env.code = .ref c) (hm : (P, X.env.qual ++ "<lambda>") ∈ E.2) (hu : ∀ q ∈ E.2, q.1 = P → q.2 = X.env.qual ++ "<lambda>")
    (L : Lam1 scope x) (hdef : defaultsOf params X.env = ([], [])) (hbind : ∀ pm c' ctv v, bindArgs (kla_fn "<lambda>" (X.env.qual ++ "<lambda>") params body scope [] pm (.ref c') ctv) ⟨[v], []⟩ = pure [(x, v)])
    (hr : Room (j + 2) X.A) (hf : X.mg "sorted" = none) (ha : PD X E e de) (hg : Gl X "sorted" := by rfl)
    (hs : starEach (e :: []) X.env = (false, eval e X.env) :: starEach [] X.env := by rfl)
    (he : backTo pos (starEach (e :: []) X.env) = (false, eval e X.env) :: backTo pos (starEach [] X.env) := by rfl) (hpl : (backTo pos (starEach (e :: []) X.env)).any (·.1) = false := by rfl)
    (hall : (backToKw pos (keywordEach [⟨some "key", .Lambda params body scope lp, kp⟩] X.env)).all (·.1.isSome) = true := by rfl) (hnone : (backToKw pos (keywordEach [⟨some "key", .Lambda params body scope lp, kp⟩] X.env)).any (·.1.isNone) = false := by rfl)
    (hks : (backToKw pos (keywordEach [⟨some "key", .Lambda params body scope lp, kp⟩] X.env)).filterMap (·.1) = (["key"] : List Str) := by rfl) :
    PD X E (.Call (.Name "sorted" p) [e] [⟨some "key", .Lambda params body scope lp, kp⟩] pos) (dSortGF enc kf de) := by
  refine ⟨⟨fun pins s σ H Q I h => ?_⟩⟩
  obtain ⟨δ, G, R, EX, sr, hG, h, cr, cx⟩ := h
  refine wpAny_Call_Name_kw (ld_blt I hg hf (show bootBuiltins "sorted" = some (.builtin "sorted") by decide +kernel) ?_)
  refine PyProof.Rows.callWith_kw (thn ((pa_cons ha.pe pa_nil hs).run pos pins s σ H (fun vs H1 => ∃ (x : V) (d : D) (l : List D) (ks : List κ) (G1 : DH), vs = [x] ∧ Up H H1 ∧ HRel (kt X E) G1 H1 ∧ Dv (kt X E) H1 x d ∧ seqOf G1 d = some l ∧ l.map kf = ks.map some ∧ l.length ≤ sizeLine ∧ R (.rol (sortG enc l ks)) G1) I
    ⟨δ, G, _, EX, sr, hG, h, fun v H1 d G1 u1 h1 r1 q1 => ?_, cx⟩) fun us s1 ⟨vs, H1, I1, r1, q1⟩ => ?_) he hpl hall hnone
  · obtain ⟨l, ks, e1, e2, e3, q⟩ := q1
    exact ⟨_, d, l, ks, G1, rfl, u1, h1, r1, e1, e2, e3, q⟩
  · obtain ⟨x0, d0, l, ks, G1, rfl, u1, h1, dv1, e1, e2, e3, q⟩ := q1
    rw [hks]
    cases r1 with
    | cons ra rn =>
      cases rn
      obtain ⟨p0, xs0, ep0, _, _⟩ := seqOf_sq h1 dv1 e1
      subst ep0
      cases ra
      show wpAny _ _ (evalAll ((do let v ← eval (.Lambda params body scope lp) X.env; standAt pos; pure v) :: [])) _ _ s1
      refine wpAny_evalAll_cons (wpAny_bind (LamX.lam_make2 (T := E.2) I1 TB hcode hm hu h1.t hdef (fun y hy z => absurd z (L.free y hy)) fun f c' pm ctv H2 s2 I2 ex tb hf2 hfn hfr hc2 => wpAny_bind (wpAny_standAt (wpAny_pure (wpAny_evalAll_nil ?_)))))
      have hcl : cloFrom X.env.cells scope.names [] = [] := by
        have z : ∀ names : List (Str × NameKind), (∀ y ∈ names, y.2 ≠ .free) → cloFrom X.env.cells names [] = [] := fun names => by
          induction names with
          | nil => intro _; rfl
          | cons y r ih =>
            intro hy
            obtain ⟨n, kd⟩ := y
            have h0 := hy (n, kd) List.mem_cons_self
            have ih := ih fun y hm => hy y (List.mem_cons_of_mem _ hm)
            unfold cloFrom
            cases kd <;> first | exact ih | exact absurd rfl h0
        exact z _ L.free
      rw [hcl] at hf2
      have h2 : HRel (kt X E) G1 H2 := extN_h h1 ex tb
      obtain ⟨aa, xs, ep1, hq2, rl⟩ := seqOf_sq h2 (dv1.up (extN_up ex)) e1
      obtain rfl : p0 = aa := V.ref.inj ep1
      have hsq : ∃ (T : String) (its : List Value) (o : Obj) (n : Nat), (T = "list" ∨ T = "tuple") ∧ Vals xs its ∧ s2.heap.get? p0 = some o ∧ o.cls = .type T ∧ o.data = .seq its.toArray n := by
        rcases hq2 with hs | hs
        · obtain ⟨its, rv, ⟨o, n, e1, e2, _, e3⟩, _⟩ := I2.list hs
          exact ⟨"list", its, o, n, .inl rfl, rv, e1, e2, e3⟩
        · obtain ⟨its, rv, ⟨o, e1, e2, n, e3⟩, _⟩ := I2.tuple hs
          exact ⟨"tuple", its, o, n, .inr rfl, rv, e1, e2, e3⟩
      obtain ⟨T0, its, o0, n0, hT0, rv, g1, g2, g3⟩ := hsq
      have hlk : l.length = ks.length := by
        have z := congrArg List.length e2
        rwa [List.length_map, List.length_map] at z
      have hbs : (l.zip ks).length = l.length := by rw [List.length_zip, ← hlk, Nat.min_self]
      have hcr : s2.heap.CodeRec (.ref c') (X.env.qual ++ "<lambda>") := by
        obtain ⟨⟨oc, vs, t, hoc, hdc, hvc⟩, _, _⟩ := I2.hok c' _ hc2
        exact ⟨c', oc, vs, t, rfl, hoc, hdc, hvc⟩
      have hun := hr.units
      refine PySem.W.cc_sorted_key (b := false) (R := fun (v : Value) (b : D × κ) => ∃ y, RelV y v ∧ Dv (kt X E) H2 y b.1) (fun b : D × κ => enc b.2) hT0 g1 g2 g3 (each_of rv rl hlk) ?hal ?hsk (by rw [hbs]; exact e3) (fun b _ => ?_) (PyProof.Rows.ksk_s1 _ _) (fun _ => PyProof.Rows.ksk_l1 _ _) (fun _ => PyProof.Rows.ksk_t1 _ _) (fun v b ⟨y, ry, dy⟩ hb h' tk kp => ?_) fun out cc h' tk kp fr hD hlen eo => ?_
      case hal =>
        exact AllAlike.of fun b b' => hal _ _
      case hsk =>
        rcases hsk with z | z
        · exact Sortable.tuples fun b => z _
        · exact Sortable.others fun b => z _
      · have := hdep b.2
        omega
      · have kk := zip_kf e2 b hb
        obtain ⟨l', el⟩ := hkf _ _ kk
        obtain ⟨t, xs', ey, hq, r'⟩ := dy.sqT el
        subst ey
        obtain rfl : v = .ref t := ry
        obtain ⟨its', rv', pt, hz'⟩ := I2.tuple hq
        have pt' : IsTup h' t its'.toArray := by
          obtain ⟨o, ho, rest⟩ := pt
          exact ⟨o, kp _ _ ho, rest⟩
        refine lam_key (s := { s2 with heap := h', toks := tk }) L (kp _ _ hf2) (hcr.keeps kp) hr.in1.in1.depth (I2.nolimit.keeps kp) (hbind pm c' ctv _) fun h₁ tk1 k1 hn => ?_
        have pt2 : IsTup h₁ t its'.toArray := by
          obtain ⟨o, ho, rest⟩ := pt'
          exact ⟨o, k1 _ _ ho, rest⟩
        exact KB (s := { s2 with heap := h₁, toks := tk1 }) L pt2 (by simpa using rv') el r' kk (by rw [List.size_toArray, ← rv'.length]; exact hz') hn
      · obtain ⟨ys, v1, v2⟩ := each_dv eo
        have fp : H2 (s2.heap.objs.size + 1) = none := I2.hok.fresh (Nat.le_succ _)
        have I3 : Inv X pins σ (upd H2 (s2.heap.objs.size + 1) (.lst ys)) { s2 with heap := h', toks := tk } := I2.laid kp (Nat.le_succ _) ⟨by rw [v2.length, List.length_map, List.length_mergeSort, hbs]; exact e3, _, _, v1, hD⟩
        have un := Up.new (o := .lst ys) fp
        have z := clo_fz cr _ _ _ _ (u1.trans ((extN_up ex).trans un)) (h2.new (c := .lst _) fp ⟨ys, upd_same, v2.up un⟩) (.ref _) (fzv_new q _ (h2.none fp))
        rcases z with z | ⟨d3, u3, e3, mu, z⟩
        · exact ⟨.ref (s2.heap.objs.size + 1), _, I3, rfl, z⟩
        · obtain ⟨od, I4⟩ := I3.lock e3 mu
          exact ⟨.ref (s2.heap.objs.size + 1), _, I4, rfl, z od⟩
end
end Cc
/-! ### reading by values: lemmas -/
namespace Cc
open PySem PySem.Spec PyProof.Rows L2
open PySem.W (EachIs AllAlike Sortable dataLe)
/-! items at written places -/
section
variable {α : Type} {a b c d e f g h : α} {l : List α}
theorem vat_0 : L2.atI (a :: l) 0 = some a := atI_nat (i := 0) rfl
theorem vat_1 : L2.atI (a :: b :: l) 1 = some b := atI_nat (i := 1) rfl
theorem vat_2 : L2.atI (a :: b :: c :: l) 2 = some c := atI_nat (i := 2) rfl
theorem vat_3 : L2.atI (a :: b :: c :: d :: l) 3 = some d := atI_nat (i := 3) rfl
theorem vat_4 : L2.atI (a :: b :: c :: d :: e :: l) 4 = some e := atI_nat (i := 4) rfl
theorem vat_5 : L2.atI (a :: b :: c :: d :: e :: f :: l) 5 = some f := atI_nat (i := 5) rfl
theorem vat_6 : L2.atI (a :: b :: c :: d :: e :: f :: g :: l) 6 = some g := atI_nat (i := 6) rfl
end
theorem vat_last {α : Type} {l : List α} (h : l ≠ []) : L2.atI l (-1) = some (l.getLast h) := by
  unfold L2.atI L2.ixN
  have hl : 0 < l.length := List.length_pos_iff.mpr h
  rw [if_neg (by omega), if_pos (by omega)]
  have e1 : (-1 + (l.length : Int)).toNat = l.length - 1 := by omega
  have e2 : ((l.length : Int) + -1).toNat = l.length - 1 := by omega
  have e3 : l[l.length - 1]? = some (l.getLast h) := by
    rw [← List.getLast?_eq_getElem?, List.getLast?_eq_some_getLast h]
  first
    | (simp only [e1, Option.bind_some]; exact e3)
    | (simp only [e2, Option.bind_some]; exact e3)
theorem vix_tup {l : List D} {i : Int} {G : DH} {R : DK} : dIx (.tup l) (.int i) G R = (match L2.atI l i with
  | some d => R d G
  | none => False) := rfl
theorem vix_rol {l : List D} {i : Int} {G : DH} {R : DK} : dIx (.rol l) (.int i) G R = (match L2.atI l i with
  | some d => R d G
  | none => False) := rfl
theorem vix_key {l : List Key} {i : Int} {G : DH} {R : DK} : dIx (.key l) (.int i) G R = (match L2.atI (l.map kD) i with
  | some d => R d G
  | none => False) := rfl
theorem vadd_int {i j : Int} {G : DH} {R : DK} : dAddF (.int i) (.int j) G R = R (.int (i + j)) G := rfl
theorem vadd_rol {l m : List D} {G : DH} {R : DK} : dAddF (.rol l) (.rol m) G R = (l.length + m.length ≤ sizeLine ∧ R (.rol (l ++ m)) G) := rfl
theorem vadd_tup {l m : List D} {G : DH} {R : DK} : dAddF (.tup l) (.tup m) G R = (l.length + m.length ≤ sizeLine ∧ R (.tup (l ++ m)) G) := rfl
theorem vadd_str {l m : Str} {G : DH} {R : DK} : dAddF (.str l) (.str m) G R = (l.length + m.length ≤ sizeLine ∧ R (.str (l ++ m)) G) := rfl
theorem vmul_int {i j : Int} {G : DH} {R : DK} : dMulF (.int i) (.int j) G R = (CMul i j ∧ R (.int (i * j)) G) := rfl
theorem vmul_rol {l : List D} {k : Int} {G : DH} {R : DK} : dMulF (.rol l) (.int k) G R = (-(2 ^ 63) ≤ k ∧ k < 2 ^ 63 ∧ l.length * k.toNat ≤ sizeLine ∧ R (.rol (List.replicate k.toNat l).flatten) G) := rfl
theorem vsub_int {i j : Int} {G : DH} {R : DK} : dSub (.int i) (.int j) G R = R (.int (i - j)) G := rfl
theorem vlt_int {i j : Int} {G : DH} {R : DK} : dLt (.int i) (.int j) G R = R (.bl (decide (i < j))) G := rfl
theorem vle_int {i j : Int} {G : DH} {R : DK} : dLe (.int i) (.int j) G R = R (.bl (decide (i ≤ j))) G := rfl
theorem vgt_int {i j : Int} {G : DH} {R : DK} : dGt (.int i) (.int j) G R = R (.bl (decide (i > j))) G := rfl
theorem vge_int {i j : Int} {G : DH} {R : DK} : dGe (.int i) (.int j) G R = R (.bl (decide (i ≥ j))) G := rfl
theorem vmax_int {i j : Int} {G : DH} {R : DK} : dMax2 [.int i, .int j] G R = R (.int (if j > i then j else i)) G := rfl
theorem vmin_int {i j : Int} {G : DH} {R : DK} : dMin2 [.int i, .int j] G R = R (.int (if j < i then j else i)) G := rfl
theorem vneg_int {i : Int} {G : DH} {R : DK} : dNeg (.int i) G R = R (.int (-i)) G := rfl
theorem vlen_tup {l : List D} {G : DH} {R : DK} : dLen [.tup l] G R = R (.int l.length) G := rfl
theorem vlen_rol {l : List D} {G : DH} {R : DK} : dLen [.rol l] G R = R (.int l.length) G := rfl
theorem vlen_at {G : DH} {a : Addr} {l : List D} {R : DK} (h : G a = some (.lst l)) (q : R (.int (l.length : Nat)) G) : dLen [.ref a] G R := by
  have e : lenOf G (.ref a) = some l.length := by
    unfold lenOf
    dsimp only
    rw [h]
  have z : (match lenOf G (.ref a) with
    | some n => R (.int n) G
    | none => False) := by
    rw [e]
    exact q
  exact z
theorem vlen_lst {l : List D} {a : Addr} {G : DH} {R : DK} (h : G a = some (.lst l)) (q : R (.int l.length) G) : dLen [.ref a] G R := vlen_at h q
theorem vtup_rol {l : List D} {G : DH} {R : DK} : dTupC [.rol l] G R = R (.tup l) G := rfl
theorem vtup_tup {l : List D} {G : DH} {R : DK} : dTupC [.tup l] G R = R (.tup l) G := rfl
theorem vlist_rol {l : List D} {G : DH} {R : DK} : dListF [.rol l] G R = R (.rol l) G := rfl
theorem vlist_tup {l : List D} {G : DH} {R : DK} : dListF [.tup l] G R = R (.rol l) G := rfl
theorem vsl_tup {l : List D} {lo hi : Option Int} {G : DH} {R : DK} : sSlF (.tup l) lo hi G R = R (.tup (cutD l lo hi)) G := rfl
theorem vsl_rol {l : List D} {lo hi : Option Int} {G : DH} {R : DK} : sSlF (.rol l) lo hi G R = R (.rol (cutD l lo hi)) G := rfl
theorem vsq_tup {l : List D} {RR : List D → (DH → Prop) → DH → Prop} {i : Nat} {δ : DS} {G : DH} {EX : DX} (e : δ[i]? = some (some (.tup l))) : iSq (dVar i) δ G RR EX = RR l (fun _ => True) G := by
  unfold iSq dVar
  rw [e]
theorem vcut_to {l : List D} {i : Nat} (h : i ≤ l.length) : cutD l none (some (i : Int)) = l.take i := by
  unfold cutD
  rw [HT.sIx_nat, HT.sIx_none, Nat.min_eq_left h, List.drop_zero, Nat.sub_zero]
theorem vcut_from {l : List D} {i : Nat} (h : i ≤ l.length) : cutD l (some (i : Int)) none = l.drop i := by
  unfold Cc.cutD
  rw [HT.sIx_nat, HT.sIx_none, Nat.min_eq_left h]
  rw [List.take_of_length_le]
  rw [List.length_drop]
  omega
theorem visi_non_bool {G : DH} {R : DK} : dIsi [.non, .ty "bool"] G R = R (.bl false) G := by
  have e : kitB "NoneType" "bool" = some false := by decide
  simp only [dIsi, tyD, e]
theorem visi_non_int {G : DH} {R : DK} : dIsi [.non, .ty "int"] G R = R (.bl false) G := by
  have e : kitB "NoneType" "int" = some false := by decide
  simp only [dIsi, tyD, e]
theorem visi_non_str {G : DH} {R : DK} : dIsi [.non, .ty "str"] G R = R (.bl false) G := by
  have e : kitB "NoneType" "str" = some false := by decide
  simp only [dIsi, tyD, e]
theorem visi_non_tuple {G : DH} {R : DK} : dIsi [.non, .ty "tuple"] G R = R (.bl false) G := by
  have e : kitB "NoneType" "tuple" = some false := by decide
  simp only [dIsi, tyD, e]
theorem visi_non_list {G : DH} {R : DK} : dIsi [.non, .ty "list"] G R = R (.bl false) G := by
  have e : kitB "NoneType" "list" = some false := by decide
  simp only [dIsi, tyD, e]
theorem visi_bl_bool {b : Bool} {G : DH} {R : DK} : dIsi [(.bl b), .ty "bool"] G R = R (.bl true) G := by
  have e : kitB "bool" "bool" = some true := by decide
  simp only [dIsi, tyD, e]
theorem visi_bl_int {b : Bool} {G : DH} {R : DK} : dIsi [(.bl b), .ty "int"] G R = R (.bl true) G := by
  have e : kitB "bool" "int" = some true := by decide
  simp only [dIsi, tyD, e]
theorem visi_bl_str {b : Bool} {G : DH} {R : DK} : dIsi [(.bl b), .ty "str"] G R = R (.bl false) G := by
  have e : kitB "bool" "str" = some false := by decide
  simp only [dIsi, tyD, e]
theorem visi_bl_tuple {b : Bool} {G : DH} {R : DK} : dIsi [(.bl b), .ty "tuple"] G R = R (.bl false) G := by
  have e : kitB "bool" "tuple" = some false := by decide
  simp only [dIsi, tyD, e]
theorem visi_bl_list {b : Bool} {G : DH} {R : DK} : dIsi [(.bl b), .ty "list"] G R = R (.bl false) G := by
  have e : kitB "bool" "list" = some false := by decide
  simp only [dIsi, tyD, e]
theorem visi_int_bool {i : Int} {G : DH} {R : DK} : dIsi [(.int i), .ty "bool"] G R = R (.bl false) G := by
  have e : kitB "int" "bool" = some false := by decide
  simp only [dIsi, tyD, e]
theorem visi_int_int {i : Int} {G : DH} {R : DK} : dIsi [(.int i), .ty "int"] G R = R (.bl true) G := by
  have e : kitB "int" "int" = some true := by decide
  simp only [dIsi, tyD, e]
theorem visi_int_str {i : Int} {G : DH} {R : DK} : dIsi [(.int i), .ty "str"] G R = R (.bl false) G := by
  have e : kitB "int" "str" = some false := by decide
  simp only [dIsi, tyD, e]
theorem visi_int_tuple {i : Int} {G : DH} {R : DK} : dIsi [(.int i), .ty "tuple"] G R = R (.bl false) G := by
  have e : kitB "int" "tuple" = some false := by decide
  simp only [dIsi, tyD, e]
theorem visi_int_list {i : Int} {G : DH} {R : DK} : dIsi [(.int i), .ty "list"] G R = R (.bl false) G := by
  have e : kitB "int" "list" = some false := by decide
  simp only [dIsi, tyD, e]
theorem visi_str_bool {z : Str} {G : DH} {R : DK} : dIsi [(.str z), .ty "bool"] G R = R (.bl false) G := by
  have e : kitB "str" "bool" = some false := by decide
  simp only [dIsi, tyD, e]
theorem visi_str_int {z : Str} {G : DH} {R : DK} : dIsi [(.str z), .ty "int"] G R = R (.bl false) G := by
  have e : kitB "str" "int" = some false := by decide
  simp only [dIsi, tyD, e]
theorem visi_str_str {z : Str} {G : DH} {R : DK} : dIsi [(.str z), .ty "str"] G R = R (.bl true) G := by
  have e : kitB "str" "str" = some true := by decide
  simp only [dIsi, tyD, e]
theorem visi_str_tuple {z : Str} {G : DH} {R : DK} : dIsi [(.str z), .ty "tuple"] G R = R (.bl false) G := by
  have e : kitB "str" "tuple" = some false := by decide
  simp only [dIsi, tyD, e]
theorem visi_str_list {z : Str} {G : DH} {R : DK} : dIsi [(.str z), .ty "list"] G R = R (.bl false) G := by
  have e : kitB "str" "list" = some false := by decide
  simp only [dIsi, tyD, e]
theorem visi_tup_bool {l : List D} {G : DH} {R : DK} : dIsi [(.tup l), .ty "bool"] G R = R (.bl false) G := by
  have e : kitB "tuple" "bool" = some false := by decide
  simp only [dIsi, tyD, e]
theorem visi_tup_int {l : List D} {G : DH} {R : DK} : dIsi [(.tup l), .ty "int"] G R = R (.bl false) G := by
  have e : kitB "tuple" "int" = some false := by decide
  simp only [dIsi, tyD, e]
theorem visi_tup_str {l : List D} {G : DH} {R : DK} : dIsi [(.tup l), .ty "str"] G R = R (.bl false) G := by
  have e : kitB "tuple" "str" = some false := by decide
  simp only [dIsi, tyD, e]
theorem visi_tup_tuple {l : List D} {G : DH} {R : DK} : dIsi [(.tup l), .ty "tuple"] G R = R (.bl true) G := by
  have e : kitB "tuple" "tuple" = some true := by decide
  simp only [dIsi, tyD, e]
theorem visi_tup_list {l : List D} {G : DH} {R : DK} : dIsi [(.tup l), .ty "list"] G R = R (.bl false) G := by
  have e : kitB "tuple" "list" = some false := by decide
  simp only [dIsi, tyD, e]
theorem visi_key_bool {l : List Key} {G : DH} {R : DK} : dIsi [(.key l), .ty "bool"] G R = R (.bl false) G := by
  have e : kitB "tuple" "bool" = some false := by decide
  simp only [dIsi, tyD, e]
theorem visi_key_int {l : List Key} {G : DH} {R : DK} : dIsi [(.key l), .ty "int"] G R = R (.bl false) G := by
  have e : kitB "tuple" "int" = some false := by decide
  simp only [dIsi, tyD, e]
theorem visi_key_str {l : List Key} {G : DH} {R : DK} : dIsi [(.key l), .ty "str"] G R = R (.bl false) G := by
  have e : kitB "tuple" "str" = some false := by decide
  simp only [dIsi, tyD, e]
theorem visi_key_tuple {l : List Key} {G : DH} {R : DK} : dIsi [(.key l), .ty "tuple"] G R = R (.bl true) G := by
  have e : kitB "tuple" "tuple" = some true := by decide
  simp only [dIsi, tyD, e]
theorem visi_key_list {l : List Key} {G : DH} {R : DK} : dIsi [(.key l), .ty "list"] G R = R (.bl false) G := by
  have e : kitB "tuple" "list" = some false := by decide
  simp only [dIsi, tyD, e]
theorem visi_rol_bool {l : List D} {G : DH} {R : DK} : dIsi [(.rol l), .ty "bool"] G R = R (.bl false) G := by
  have e : kitB "list" "bool" = some false := by decide
  simp only [dIsi, tyD, e]
theorem visi_rol_int {l : List D} {G : DH} {R : DK} : dIsi [(.rol l), .ty "int"] G R = R (.bl false) G := by
  have e : kitB "list" "int" = some false := by decide
  simp only [dIsi, tyD, e]
theorem visi_rol_str {l : List D} {G : DH} {R : DK} : dIsi [(.rol l), .ty "str"] G R = R (.bl false) G := by
  have e : kitB "list" "str" = some false := by decide
  simp only [dIsi, tyD, e]
theorem visi_rol_tuple {l : List D} {G : DH} {R : DK} : dIsi [(.rol l), .ty "tuple"] G R = R (.bl false) G := by
  have e : kitB "list" "tuple" = some false := by decide
  simp only [dIsi, tyD, e]
theorem visi_rol_list {l : List D} {G : DH} {R : DK} : dIsi [(.rol l), .ty "list"] G R = R (.bl true) G := by
  have e : kitB "list" "list" = some true := by decide
  simp only [dIsi, tyD, e]
theorem vtyL {G : DH} {f : Addr} {l : List D} : tyR (updD G f (.lst l)) "list" (.ref f) = True := by
  unfold tyR
  dsimp only
  rw [updD_same]
  simp
theorem vapp {G : DH} {f : Addr} {l : List D} {y : D} {R : DK} : mAppend (.ref f) [y] (updD G f (.lst l)) R = (l.length < sizeLine ∧ R .non (updD G f (.lst (l ++ [y])))) := by
  unfold mAppend
  refine propext ⟨fun ⟨m, e, h, q⟩ => ?_, fun ⟨h, q⟩ => ⟨l, updD_same, h, by rw [updD_updD]; exact q⟩⟩
  rw [updD_same] at e
  cases e
  rw [updD_updD] at q
  exact ⟨h, q⟩
theorem vlen_upd {G : DH} {f : Addr} {l : List D} {R : DK} : dLen [.ref f] (updD G f (.lst l)) R = R (.int l.length) (updD G f (.lst l)) := by
  have e : lenOf (updD G f (.lst l)) (.ref f) = some l.length := by
    unfold lenOf
    dsimp only
    rw [updD_same]
  simp only [dLen, e]
theorem vix_upd {G : DH} {f : Addr} {l : List D} {i : Int} {R : DK} : dIx (.ref f) (.int i) (updD G f (.lst l)) R = (match L2.atI l i with
  | some d => R d (updD G f (.lst l))
  | none => False) := by
  have e : itemOf (updD G f (.lst l)) (.ref f) (.int i) = L2.atI l i := by
    unfold itemOf
    dsimp only
    rw [updD_same]
  unfold dIx
  rw [e]
  all_goals (cases L2.atI l i <;> rfl)
theorem vsz_0 : (0 ≤ sizeLine) = True := by rw [sizeLine_eq]; simp
theorem vsz_1 : (0 + 1 ≤ sizeLine) = True := by rw [sizeLine_eq]; simp
theorem vsz_2 : (0 + 1 + 1 ≤ sizeLine) = True := by rw [sizeLine_eq]; simp
theorem vsz_3 : (0 + 1 + 1 + 1 ≤ sizeLine) = True := by rw [sizeLine_eq]; simp
theorem vsz_4 : (0 + 1 + 1 + 1 + 1 ≤ sizeLine) = True := by rw [sizeLine_eq]; simp
theorem vsz_5 : (0 + 1 + 1 + 1 + 1 + 1 ≤ sizeLine) = True := by rw [sizeLine_eq]; simp
theorem vsz_6 : (0 + 1 + 1 + 1 + 1 + 1 + 1 ≤ sizeLine) = True := by rw [sizeLine_eq]; simp
theorem vsz_7 : (0 + 1 + 1 + 1 + 1 + 1 + 1 + 1 ≤ sizeLine) = True := by rw [sizeLine_eq]; simp
theorem vsz_8 : (0 + 1 + 1 + 1 + 1 + 1 + 1 + 1 + 1 ≤ sizeLine) = True := by rw [sizeLine_eq]; simp
theorem vsz_9 : (0 + 1 + 1 + 1 + 1 + 1 + 1 + 1 + 1 + 1 ≤ sizeLine) = True := by rw [sizeLine_eq]; simp
/-! loops over what is told by a list of things -/
theorem goFor_map {α : Type} {ok : DH → Prop} {g : DG} {tb : DSt} {Dn : DEnds} {f : α → D} (I : List α → DS → DH → Prop) (hok : ∀ xs δ G, I xs δ G → ok G) (hnil : ∀ δ G, I [] δ G → Dn.nx δ G)
    (hs : ∀ x xs δ G (N : DS → DH → Prop), I (x :: xs) δ G → (∀ δ' G', I xs δ' G' → N δ' G') → g (f x) δ G (fun δ2 G2 => tb { Dn with nx := N, ct := N, bk := Dn.nx } δ2 G2) Dn.ex) :
    ∀ (l : List α) (δ : DS) (G : DH), I l δ G → goFor ok g tb Dn (l.map f) δ G
  | [], δ, G, h => ⟨hok _ _ _ h, hnil _ _ h⟩
  | x :: xs, δ, G, h => ⟨hok _ _ _ h, hs x xs δ G _ h fun δ' G' h' => goFor_map I hok hnil hs xs δ' G' h'⟩
/-- a comprehension that changes nothing -/
theorem goLcF_map {α : Type} {ok : DH → Prop} {g : DG} {tt : DT} {te : DE} {k : List D → DH → Prop} {δ : DS} {G : DH} {f : α → D} (F : α → Option D) (hok : ok G)
    (hs : ∀ (x : α) (C1 : DK) (C2 : DH → Prop), (match F x with
      | none => C2 G
      | some y => C1 y G) → g (f x) δ G (fun δ2 G2 => tt δ2 G2 (fun b G3 => if b = true then te δ2 G3 C1 noX else C2 G3) noX) noX) :
    ∀ (l : List α) (acc : List D), acc.length + l.length ≤ sizeLine → k (acc ++ l.filterMap F) G → goLcF ok g tt te k δ acc (l.map f) G
  | [], acc, _, q => by
    rw [List.filterMap_nil, List.append_nil] at q
    exact ⟨hok, q⟩
  | x :: xs, acc, hl, q => by
    refine ⟨hok, hs x _ _ ?_⟩
    rw [List.length_cons] at hl
    cases e : F x with
    | none =>
      rw [List.filterMap_cons, e] at q
      exact goLcF_map F hok hs xs acc (by omega) q
    | some y =>
      rw [List.filterMap_cons, e] at q
      refine ⟨by omega, goLcF_map F hok hs xs (acc ++ [y]) (by rw [List.length_append]; simp; omega) ?_⟩
      rw [List.append_assoc]
      exact q
/-- .. of the things of the list alone -/
theorem goLcF_mem {α : Type} {ok : DH → Prop} {g : DG} {tt : DT} {te : DE} {k : List D → DH → Prop} {δ : DS} {G : DH} {f : α → D} (F : α → Option D) (hok : ok G) :
    ∀ (l : List α) (acc : List D), (∀ x ∈ l, ∀ (C1 : DK) (C2 : DH → Prop), (match F x with
      | none => C2 G
      | some y => C1 y G) → g (f x) δ G (fun δ2 G2 => tt δ2 G2 (fun b G3 => if b = true then te δ2 G3 C1 noX else C2 G3) noX) noX) → acc.length + l.length ≤ sizeLine → k (acc ++ l.filterMap F) G → goLcF ok g tt te k δ acc (l.map f) G
  | [], acc, _, _, q => by
    rw [List.filterMap_nil, List.append_nil] at q
    exact ⟨hok, q⟩
  | x :: xs, acc, hs, hl, q => by
    refine ⟨hok, hs x List.mem_cons_self _ _ ?_⟩
    rw [List.length_cons] at hl
    have hs' := fun y hy => hs y (List.mem_cons_of_mem _ hy)
    cases e : F x with
    | none =>
      rw [List.filterMap_cons, e] at q
      exact goLcF_mem F hok xs acc hs' (by omega) q
    | some y =>
      rw [List.filterMap_cons, e] at q
      refine ⟨by omega, goLcF_mem F hok xs (acc ++ [y]) hs' (by rw [List.length_append]; simp; omega) ?_⟩
      rw [List.append_assoc]
      exact q
/-- a comprehension by its invariant -/
theorem goLcF_inv {α : Type} {ok : DH → Prop} {g : DG} {tt : DT} {te : DE} {k : List D → DH → Prop} {δ : DS} {f : α → D} (I : List α → List D → DH → Prop) (hok : ∀ xs acc G, I xs acc G → ok G) (hlen : ∀ xs acc G, I xs acc G → acc.length < sizeLine) (hend : ∀ acc G, I [] acc G → k acc G)
    (hs : ∀ (x : α) (xs : List α) (acc : List D) (G : DH) (C1 : DK) (C2 : DH → Prop), I (x :: xs) acc G → (∀ y G', I xs (acc ++ [y]) G' → C1 y G') → (∀ G', I xs acc G' → C2 G') → g (f x) δ G (fun δ2 G2 => tt δ2 G2 (fun b G3 => if b = true then te δ2 G3 C1 noX else C2 G3) noX) noX) :
    ∀ (l : List α) (acc : List D) (G : DH), I l acc G → goLcF ok g tt te k δ acc (l.map f) G
  | [], acc, G, h => ⟨hok _ _ _ h, hend _ _ h⟩
  | x :: xs, acc, G, h => ⟨hok _ _ _ h, hs x xs acc G _ _ h (fun y G' h' => ⟨hlen _ _ _ h, goLcF_inv I hok hlen hend hs xs _ _ h'⟩) fun G' h' => goLcF_inv I hok hlen hend hs xs _ _ h'⟩
theorem rangeD_map (n : Nat) : rangeD 0 n = (List.range n).map fun i : Nat => D.int (i : Int) := by
  unfold rangeD
  refine List.map_congr_left fun i _ => ?_
  rw [Int.zero_add]
theorem sz_small {n : Nat} (h : n ≤ 100000) : n ≤ sizeLine := by rw [sizeLine_eq]; omega
/-- sorted by an int key: a model list -/
theorem sortG_map {α : Type} {f : α → D} {key : α → Int} (l : List α) : sortG PyData.int (l.map f) (l.map key) = (l.mergeSort fun a b => decide (key a ≤ key b)).map f := by
  unfold sortG
  have e : (l.map f).zip (l.map key) = l.map fun x => (f x, key x) := by
    rw [List.zip_map']
  rw [e, PySem.W.dataLe_int (fun b : D × Int => b.2)]
  rw [← List.map_mergeSort (r := fun a b => decide (key a ≤ key b)) (s := fun a b : D × Int => decide (a.2 ≤ b.2)) (f := fun x => (f x, key x)) (l := l) (fun a _ b _ => rfl), List.map_map]
  rfl
end Cc
/-! ### draws, menus, emptiness -/
namespace Cc
open PySem PySem.Spec PyProof.Rows L2
open PySem.W (EachIs AllAlike Sortable dataLe)
theorem off_use {a : Addr} {m : Int} {l : List D} {G : DH} {R : DK} {EX : DX} (dl : Draws l) (m0 : 0 < m) (m1 : m < 1073741824) (q : ∀ r l', 0 ≤ r → r < m → Draws l' → R (.int r) (updD G a (.lst l'))) : sd__law_off [.ref a, .int m] (updD G a (.lst l)) R EX :=
  ⟨a, m, l, rfl, updD_same, dl, m0, m1, fun r l' h0 h1 dl' => by rw [updD_updD]; exact q r l' h0 h1 dl'⟩
/-- .. some other cell was stored behind the draws' -/
theorem off_use2 {a f : Addr} {c : C} {m : Int} {l : List D} {G : DH} {R : DK} {EX : DX} (ne : f ≠ a) (dl : Draws l) (m0 : 0 < m) (m1 : m < 1073741824) (q : ∀ r l', 0 ≤ r → r < m → Draws l' → R (.int r) (updD (updD G a (.lst l')) f c)) : sd__law_off [.ref a, .int m] (updD (updD G a (.lst l)) f c) R EX :=
  ⟨a, m, l, rfl, by rw [updD_ne (Ne.symm ne)]; exact updD_same, dl, m0, m1, fun r l' h0 h1 dl' => by rw [updD_comm ne, updD_updD]; exact q r l' h0 h1 dl'⟩
theorem menu2 {i j r : Int} {G : DH} {R : DK} (h0 : 0 ≤ r) (h1 : r < 2) (q : ∀ x, x = i ∨ x = j → R (.int x) G) : dIx (.rol [.int i, .int j]) (.int r) G R := by
  rw [vix_rol]
  rcases (show r = 0 ∨ r = 1 by omega) with rfl | rfl
  · rw [vat_0]; exact q _ (.inl rfl)
  · rw [vat_1]; exact q _ (.inr rfl)
theorem menu3 {i j k r : Int} {G : DH} {R : DK} (h0 : 0 ≤ r) (h1 : r < 3) (q : ∀ x, x = i ∨ x = j ∨ x = k → R (.int x) G) : dIx (.rol [.int i, .int j, .int k]) (.int r) G R := by
  rw [vix_rol]
  rcases (show r = 0 ∨ r = 1 ∨ r = 2 by omega) with rfl | rfl | rfl
  · rw [vat_0]; exact q _ (.inl rfl)
  · rw [vat_1]; exact q _ (.inr (.inl rfl))
  · rw [vat_2]; exact q _ (.inr (.inr rfl))
theorem menuD {l : List D} {r : Int} {G : DH} {R : DK} (h0 : 0 ≤ r) (h1 : r < l.length) (q : ∀ x ∈ l, R x G) : dIx (.rol l) (.int r) G R := by
  rw [vix_rol]
  obtain ⟨d, hd, e⟩ := atI_mem h0 h1
  rw [e]
  exact q d hd
theorem eqv_nil (xs : List PyData) : PyData.eqv (.list xs) (.list []) = xs.isEmpty := by
  cases xs <;> simp [PyData.eqv, PyData.eqvAll]
theorem shaped_nil : SeqAt.shaped (.list []) = true := by simp [SeqAt.shaped, PyData.canLay0, PyData.canLayAll0, PyData.depth, PyData.depthAll]
theorem vne_nil {l : List D} {ts : List PyData} {G : DH} {R : DK} (h : RddL G l ts) (s : SeqAt.shaped (.list ts) = true) (q : R (.bl (!l.isEmpty)) G) : dNe (.rol l) (.rol []) G R := by
  refine ⟨.list ts, .list [], .rol h, .rol .nil, s, shaped_nil, ?_⟩
  rw [eqv_nil]
  have : ts.isEmpty = l.isEmpty := by
    have := h.len
    cases l <;> cases ts <;> first | rfl | cases this
  rw [this]
  exact q
theorem veq_nil {l : List D} {ts : List PyData} {G : DH} {R : DK} (h : RddL G l ts) (s : SeqAt.shaped (.list ts) = true) (q : R (.bl l.isEmpty) G) : dEq (.rol l) (.rol []) G R := by
  refine ⟨.list ts, .list [], .rol h, .rol .nil, s, shaped_nil, ?_⟩
  rw [eqv_nil]
  have : ts.isEmpty = l.isEmpty := by
    have := h.len
    cases l <;> cases ts <;> first | rfl | cases this
  rw [this]
  exact q
/-- the same data on both sides -/
theorem vne_self {l m : List D} {ts : List PyData} {G : DH} {R : DK} (h : RddL G l ts) (h' : RddL G m ts) (s : SeqAt.shaped (.list ts) = true) (q : R (.bl false) G) : dNe (.rol l) (.rol m) G R := by
  refine ⟨.list ts, .list ts, .rol h, .rol h', s, s, ?_⟩
  rw [SeqAt.eqv_refl _ (by unfold SeqAt.shaped at s; rw [Bool.and_eq_true] at s; exact s.1)]
  exact q
theorem draws_sub {G G' : DH} {a : Addr} {l : List D} (s : Sub G G') (h : G a = some (.lst l)) : G' a = some (.lst l) := s _ _ h
theorem pow_int {i : Int} {n : Nat} {G : DH} {R : DK} (h : CPow i n) (q : R (.int (i ^ n)) G) : dPow (.int i) (.int n) G R := ⟨h, by simpa using q⟩
end Cc
/-! ### plans: models, promises -/
namespace Pl
open PySem PySem.Spec PyProof.Rows L2 Cc
open PySem.W (EachIs AllAlike Sortable dataLe)
def oD : Option Int → D
  | none => .non
  | some i => .int i
def oP : Option Int → PyData
  | none => .none
  | some i => .int i
inductive Atom : D → Prop
  | non : Atom .non
  | bl (b : Bool) : Atom (.bl b)
  | int (i : Int) : Atom (.int i)
  | str (s : Str) : Atom (.str s)
theorem atom_oD (o : Option Int) : Atom (oD o) := by cases o; exact .non; exact .int _
def btw (x : D) (lo hi : Int) : Bool := match x with
  | .int i => decide (lo ≤ i) && decide (i ≤ hi)
  | _ => false
def isPlan : List D → Bool
  | [a, b, c, d] => btw a 0 999 && btw b 1 50 && (btw c 1 100 && btw d 1 12)
  | _ => false
structure Plan where
  b : Int
  l : Int
  e : Int
  m : Int
deriving DecidableEq
def Plan.ds (p : Plan) : List D := [.int p.b, .int p.l, .int p.e, .int p.m]
def Plan.d (p : Plan) : D := .tup p.ds
structure Plan.Ok (p : Plan) : Prop where
  b0 : 0 ≤ p.b
  b1 : p.b ≤ 999
  l0 : 1 ≤ p.l
  l1 : p.l ≤ 50
  e0 : 1 ≤ p.e
  e1 : p.e ≤ 100
  m0 : 1 ≤ p.m
  m1 : p.m ≤ 12
theorem isPlan_ok {p : Plan} (h : p.Ok) : isPlan p.ds = true := by
  obtain ⟨a, b, c, d, e, f, g, i⟩ := h
  simp only [isPlan, Plan.ds, btw, Bool.and_eq_true, decide_eq_true_eq]
  omega
theorem ok_of_isPlan {l : List D} (h : isPlan l = true) : ∃ p : Plan, l = p.ds ∧ p.Ok := by
  unfold isPlan at h
  split at h
  · rename_i a b c d
    simp only [Bool.and_eq_true] at h
    obtain ⟨⟨h1, h2⟩, h3, h4⟩ := h
    unfold btw at h1 h2 h3 h4
    split at h1
    · split at h2
      · split at h3
        · split at h4
          · simp only [Bool.and_eq_true, decide_eq_true_eq] at h1 h2 h3 h4
            exact ⟨⟨_, _, _, _⟩, rfl, h1.1, h1.2, h2.1, h2.2, h3.1, h3.2, h4.1, h4.2⟩
          · cases h4
        · cases h3
      · cases h2
    · cases h1
  · cases h
structure One where
  k : Int
  n : Int
  b : Option Int
deriving DecidableEq
def One.d (o : One) : D := .tup [.int o.k, .int o.n, oD o.b]
def onesD (os : List One) : D := .tup (os.map One.d)
/-- how often, and where to -/
def chg (os : List One) (k : Int) : Int × Option Int := match os.find? (fun o => decide (o.k = k)) with
  | some o => (o.n, o.b)
  | none => (0, none)
def byK (l : List One) : List One := l.mergeSort fun a b => decide (a.k ≤ b.k)
def changed (os : List One) (k : Int) (b : Option Int) : List One := byK (os.filter (fun o => !decide (o.k = k)) ++ [⟨k, (chg os k).1 + 1, b⟩])
structure Row where
  k : Nat
  b : Option Int
  n : Int
deriving DecidableEq
def Row.d (r : Row) : D := .tup [.int (r.k : Int), oD r.b, .int r.n]
def Row.p (r : Row) : PyData := .tuple [.int (r.k : Int), oP r.b, .int r.n]
def rowOf (p : Plan) (os : List One) (k : Nat) : Row := ⟨k, if (chg os k).1 = 0 then some (p.b + k * p.e) else (chg os k).2, (chg os k).1⟩
def rowsOf (p : Plan) (os : List One) : List Row := (List.range p.m.toNat).map (rowOf p os)
/-! the promises -/
def sd_is_between : SpD := fun ds G R _ => ∃ x lo hi, ds = [x, .int lo, .int hi] ∧ Atom x ∧ R (.bl (btw x lo hi)) G
def sd_is_plan : SpD := fun ds G R _ => ∃ l, ds = [.tup l] ∧ (∀ x ∈ l, Atom x) ∧ R (.bl (isPlan l)) G
def sd_need_plan (C : Addr) : SpD := fun ds G R EX => ∃ l, ds = [.tup l] ∧ (∀ x ∈ l, Atom x) ∧ (isPlan l = true → R .non G) ∧ (isPlan l = false → EX (.ref C) none G)
def sd_change_of : SpD := fun ds G R _ => ∃ os k, ds = [onesD os, .int k] ∧ R (.tup [.int (chg os k).1, oD (chg os k).2]) G
def sd_changed : SpD := fun ds G R _ => ∃ os k b, ds = [onesD os, .int k, oD b] ∧ os.length ≤ 1000 ∧ R (onesD (changed os k b)) G
def sd_rows_of : SpD := fun ds G R _ => ∃ (p : Plan) (os : List One), ds = [p.d, onesD os] ∧ 0 ≤ p.m ∧ p.m ≤ 1000 ∧ R (.rol ((rowsOf p os).map Row.d)) G
/-- the same, the list not read as a value -/
def sd_rows_of' : SpD := fun ds G R _ => ∃ (p : Plan) (os : List One), ds = [p.d, onesD os] ∧ 0 ≤ p.m ∧ p.m ≤ 1000 ∧ ∀ a, G a = none → R (.ref a) (updD G a (.lst ((rowsOf p os).map Row.d)))
/-! what changes come to -/
theorem byK_mem {l : List One} {o : One} : o ∈ byK l ↔ o ∈ l := (List.mergeSort_perm l _).mem_iff
/-- no two of the same number -/
def Ndk (os : List One) : Prop := (os.map (·.k)).Nodup
theorem ndk_perm {l l' : List One} (h : l.Perm l') (n : Ndk l) : Ndk l' := (h.map _).nodup_iff.mp n
theorem chg_of {os : List One} (n : Ndk os) {o : One} (h : o ∈ os) : chg os o.k = (o.n, o.b) := by
  unfold chg
  induction os with
  | nil => cases h
  | cons x xs ih =>
    obtain ⟨n1, n2⟩ := List.nodup_cons.mp n
    rcases List.mem_cons.mp h with rfl | h
    · rw [List.find?_cons_of_pos (by simp)]
    · have ne : x.k ≠ o.k := fun e => n1 (List.mem_map.mpr ⟨o, h, e.symm⟩)
      rw [List.find?_cons_of_neg (by simp [ne])]
      exact ih n2 h
theorem chg_none {os : List One} {k : Int} (h : ∀ o ∈ os, o.k ≠ k) : chg os k = (0, none) := by
  unfold chg
  rw [List.find?_eq_none.mpr fun o ho => by simp [h o ho]]
theorem chg_perm {l l' : List One} (h : l.Perm l') (n : Ndk l) (k : Int) : chg l k = chg l' k := by
  by_cases hk : ∃ o ∈ l, o.k = k
  · obtain ⟨o, ho, rfl⟩ := hk
    rw [chg_of n ho, chg_of (ndk_perm h n) (h.mem_iff.mp ho)]
  · have h1 : ∀ o ∈ l, o.k ≠ k := fun o ho e => hk ⟨o, ho, e⟩
    rw [chg_none h1, chg_none fun o ho => h1 o (h.mem_iff.mpr ho)]
theorem ndk_changed {os : List One} (n : Ndk os) (k : Int) (b : Option Int) : Ndk (changed os k b) := by
  refine ndk_perm (List.mergeSort_perm _ _).symm ?_
  unfold Ndk
  rw [List.map_append, List.nodup_append]
  refine ⟨n.sublist (List.filter_sublist.map _), by simp, fun a ha c hc e => ?_⟩
  obtain ⟨o, ho, rfl⟩ := List.mem_map.mp ha
  have := (List.mem_filter.mp ho).2
  simp at hc
  rw [e, hc] at this
  simp at this
theorem chg_changed {os : List One} (n : Ndk os) (k : Int) (b : Option Int) (j : Int) : chg (changed os k b) j = if j = k then ((chg os k).1 + 1, b) else chg os j := by
  have hn := ndk_changed n k b
  have mem : ∀ o, o ∈ changed os k b ↔ o ∈ os.filter (fun o => !decide (o.k = k)) ∨ o = ⟨k, (chg os k).1 + 1, b⟩ := fun o => by
    unfold changed
    rw [byK_mem, List.mem_append, List.mem_singleton]
  by_cases h : j = k
  · subst h
    rw [if_pos rfl]
    exact chg_of (o := ⟨j, (chg os j).1 + 1, b⟩) hn ((mem _).mpr (.inr rfl))
  · rw [if_neg h]
    by_cases hj : ∃ o ∈ os, o.k = j
    · obtain ⟨o, ho, rfl⟩ := hj
      rw [chg_of hn ((mem o).mpr (.inl (List.mem_filter.mpr ⟨ho, by simp [h]⟩))), chg_of n ho]
    · have h1 : ∀ o ∈ os, o.k ≠ j := fun o ho e => hj ⟨o, ho, e⟩
      rw [chg_none h1, chg_none fun o ho => ?_]
      rcases (mem o).mp ho with ho | rfl
      · exact h1 o (List.mem_filter.mp ho).1
      · exact fun e => h e.symm
theorem changed_len (os : List One) (k : Int) (b : Option Int) : (changed os k b).length ≤ os.length + 1 := by
  unfold changed byK
  rw [List.length_mergeSort, List.length_append]
  have := List.length_filter_le (fun o : One => !decide (o.k = k)) os
  simp
  omega
end Pl
/-! ### plans: readings -/
namespace Pl
open PySem PySem.Spec PyProof.Rows L2 Cc
def b_is_between : DSt :=
  (sRet (dAndV (dCB dIsi (dCons (dVar 0) (dCons (dC (.ty "int")) dNil))) (dAndV (dNotV (dCB dIsi (dCons (dVar 0) (dCons (dC (.ty "bool")) dNil)))) (dChain dLe dLe (dVar 1) (dVar 0) (dVar 2)))))
abbrev N_is_between : List Str := ["part", "low", "high"]
def b_is_plan : DSt :=
  (sSeq (sIf (dOr (dNot (dTest (dCB dIsi (dCons (dVar 0) (dCons (dC (.ty "tuple")) dNil))))) (dTest (dOp dNe (dCB dLen (dCons (dVar 0) dNil)) (dC (.int 4))))) (sRet (dC (.bl false))) sNext)
  (sSeq (sAsg (dVar 0) (gT 4 (gsCons (gN 1) (gsCons (gN 2) (gsCons (gN 3) (gsCons (gN 4) gsNil))))))
  (sSeq (sAsg (dAndV (dCall sd_is_between (dCons (dVar 1) (dCons (dC (.int 0)) (dCons (dC (.int 999)) dNil)))) (dCall sd_is_between (dCons (dVar 2) (dCons (dC (.int 1)) (dCons (dC (.int 50)) dNil))))) (gN 5))
  (sRet (dAndV (dVar 5) (dAndV (dCall sd_is_between (dCons (dVar 3) (dCons (dC (.int 1)) (dCons (dC (.int 100)) dNil)))) (dCall sd_is_between (dCons (dVar 4) (dCons (dC (.int 1)) (dCons (dC (.int 12)) dNil))))))))))
abbrev N_is_plan : List Str := ["plan", "begin", "long", "every", "many", "good"]
def b_need_plan (C_BadPlan : Addr) : DSt :=
  (sIf (dNot (dTest (dCall sd_is_plan (dCons (dVar 0) dNil)))) (sRaise C_BadPlan) sNext)
abbrev N_need_plan : List Str := ["plan"]
def b_is_name : DSt :=
  (sRet (dAndV (dCB dIsi (dCons (dVar 0) (dCons (dC (.ty "str")) dNil))) (dAndV (dOp dLe (dCB dLen (dCons (dVar 0) dNil)) (dC (.int 10))) (dOp dEq (dLcF (iSq (dVar 0)) (gN 1) (dTest (dOp dNotIn (dVar 1) (dC (.str "abcdefghijklmnopqrstuvwxyz")))) (dVar 1) [1]) (dLstF dNil)))))
abbrev N_is_name : List Str := ["text", "sign"]
def b_change_of : DSt :=
  (sSeq (sFor (iSq (dVar 0)) (gT 3 (gsCons (gN 2) (gsCons (gN 3) (gsCons (gN 4) gsNil)))) (sIf (dTest (dOp dEq (dVar 2) (dVar 1))) (sRet (dTup (dCons (dVar 3) (dCons (dVar 4) dNil)))) sNext))
  (sRet (dTup (dCons (dC (.int 0)) (dCons (dC .non) dNil)))))
abbrev N_change_of : List Str := ["ones", "k", "number", "often", "begin"]
def b_changed : DSt :=
  (sSeq (sAsg (dOp dAddF (dOp dIx (dCall sd_change_of (dCons (dVar 0) (dCons (dVar 1) dNil))) (dC (.int 0))) (dC (.int 1))) (gN 3))
  (sSeq (sAsg (dLcF (iSq (dVar 0)) (gN 5) (dTest (dOp dNe (dOp dIx (dVar 5) (dC (.int 0))) (dVar 1))) (dVar 5) [5]) (gN 4))
  (sRet (dCB dTupC (dCons (dSortGF PyData.int (kI 0) (dOp dAddF (dVar 4) (dLstF (dCons (dTup (dCons (dVar 1) (dCons (dVar 3) (dCons (dVar 2) dNil)))) dNil)))) dNil)))))
abbrev N_changed : List Str := ["ones", "k", "begin", "often", "rest", "row"]
def b_rows_of : DSt :=
  (sSeq (sAsg (dVar 0) (gT 4 (gsCons (gN 2) (gsCons (gN 3) (gsCons (gN 4) (gsCons (gN 5) gsNil))))))
  (sSeq (sAsg (dLst dNil) (gN 6))
  (sSeq (sFor (iRange1 (dVar 5)) (gN 7) (sSeq (sAsg (dCall sd_change_of (dCons (dVar 1) (dCons (dVar 7) dNil))) (gT 2 (gsCons (gN 8) (gsCons (gN 9) gsNil))))
  (sDrop (dBM "list" mAppend (dVar 6) (dCons (dTup (dCons (dVar 7) (dCons (dIf (dTest (dOp dEq (dVar 8) (dC (.int 0)))) (dOp dAddF (dVar 2) (dOp dMulF (dVar 7) (dVar 4))) (dVar 9)) (dCons (dVar 8) dNil)))) dNil)))))
  (sFz 6 (sRet (dVar 6))))))
abbrev N_rows_of : List Str := ["plan", "ones", "begin", "long", "every", "many", "found", "k", "often", "other"]
def b_rows_of' : DSt :=
  (sSeq (sAsg (dVar 0) (gT 4 (gsCons (gN 2) (gsCons (gN 3) (gsCons (gN 4) (gsCons (gN 5) gsNil))))))
  (sSeq (sAsg (dLst dNil) (gN 6))
  (sSeq (sFor (iRange1 (dVar 5)) (gN 7) (sSeq (sAsg (dCall sd_change_of (dCons (dVar 1) (dCons (dVar 7) dNil))) (gT 2 (gsCons (gN 8) (gsCons (gN 9) gsNil))))
  (sDrop (dBM "list" mAppend (dVar 6) (dCons (dTup (dCons (dVar 7) (dCons (dIf (dTest (dOp dEq (dVar 8) (dC (.int 0)))) (dOp dAddF (dVar 2) (dOp dMulF (dVar 7) (dVar 4))) (dVar 9)) (dCons (dVar 8) dNil)))) dNil)))))
  (sRet (dVar 6)))))
end Pl
/-! ### plans: the defs by their readings -/
namespace Pl
open PySem PySem.Spec PyProof.Rows L2 Cc
open PySem.W (EachIs AllAlike Sortable dataLe)
local macro_rules | `(tactic| walk_at "rd") => `(tactic| try simp only [sSeq, sIf, sAsg, sRet, sRetN, sDrop, sNext, gN, gT, gsCons, gsNil, gsNames, wipeD, D.tl, dTest, dAnd, dOr, dNot, dAndV, dOrV, dNotV, dIf, dOp, dUn, dVar, dC, dCons, dNil, dCB, dCall, dTup, dLst, dLstF, dYes, blD_bl, dEq_int, dNe_int, dEq_bl, dNe_bl, dEq_str, dChain, vadd_int, vadd_rol, vadd_tup, vmul_int, vsub_int, vlt_int, vle_int, vgt_int, vge_int, vmax_int, vmin_int, vneg_int, vlen_tup, vlen_rol, vtup_rol, vtup_tup, vlist_rol, vlist_tup, vix_tup, vix_rol, vat_0, vat_1, vat_2, vat_3, vat_4, vat_5, vat_6, vsl_tup, vsl_rol, visi_non_bool, visi_non_int, visi_non_str, visi_non_tuple, visi_non_list, visi_bl_bool, visi_bl_int, visi_bl_str, visi_bl_tuple, visi_bl_list, visi_int_bool, visi_int_int, visi_int_str, visi_int_tuple, visi_int_list, visi_str_bool, visi_str_int, visi_str_str, visi_str_tuple, visi_str_list, visi_tup_bool, visi_tup_int, visi_tup_str, visi_tup_tuple, visi_tup_list, visi_key_bool, visi_key_int, visi_key_str, visi_key_tuple, visi_key_list, visi_rol_bool, visi_rol_int, visi_rol_str, visi_rol_tuple, visi_rol_list, dBM, vtyL, vapp, vlen_upd, vix_upd, vsz_0, vsz_1, vsz_2, vsz_3, vsz_4, vsz_5, vsz_6, vsz_7, vsz_8, vsz_9, dIsN, dNotN, D.isN, List.getElem?_cons_zero, List.getElem?_cons_succ, List.set_cons_zero, List.set_cons_succ, List.length_cons, List.length_nil, decide_eq_true_eq, if_true, if_false, Bool.false_eq_true, ite_true, ite_false, true_and, and_true, Bool.not_true, Bool.not_false])
theorem pure_is_between (ds : List D) (G : DH) (R : DK) (EX : DX) (h : sd_is_between ds G R EX) : b_is_between (endsD (frg R) EX) (startD N_is_between ds) G := by
  obtain ⟨x, lo, hi, rfl, ha, q⟩ := h
  show b_is_between (endsD (frg R) EX) [some x, some (.int lo), some (.int hi)] G
  have q := frg_of q
  unfold b_is_between
  cases ha with
  | non => walk_at "rd"; exact q
  | str s => walk_at "rd"; exact q
  | bl b => walk_at "rd"; exact q
  | int i =>
    walk_at "rd"
    unfold btw at q
    dsimp only at q
    by_cases h : lo ≤ i
    · rw [if_pos h]
      rw [decide_eq_true h, Bool.true_and] at q
      exact q
    · rw [if_neg h]
      rw [decide_eq_false h, Bool.false_and] at q
      exact q
theorem pure_is_plan (ds : List D) (G : DH) (R : DK) (EX : DX) (h : sd_is_plan ds G R EX) : b_is_plan (endsD (frg R) EX) (startD N_is_plan ds) G := by
  obtain ⟨l, rfl, ha, q⟩ := h
  show b_is_plan (endsD (frg R) EX) [some (.tup l), none, none, none, none, none] G
  have q := frg_of q
  unfold b_is_plan
  walk_at "rd"
  by_cases hl : l.length = 4
  · match l, hl with
    | [a, b, c, d], _ =>
      walk_at "rd"
      rw [if_neg (by simp)]
      refine ⟨a, 0, 999, rfl, ha a (by simp), ?_⟩
      unfold isPlan at q
      dsimp only at q
      walk_at "rd"
      have k2 : ∀ g : Bool, g = (btw a 0 999 && btw b 1 50) → ∀ o : Option D, dAndV (dVar 5) (dAndV (dCall sd_is_between (dCons (dVar 3) (dCons (dC (.int 1)) (dCons (dC (.int 100)) dNil)))) (dCall sd_is_between (dCons (dVar 4) (dCons (dC (.int 1)) (dCons (dC (.int 12)) dNil))))) [some (.tup [a, b, c, d]), some a, some b, some c, some d, some (.bl g)] G (frg R) EX := fun g eg o => by
        subst eg
        walk_at "rd"
        by_cases hg : (btw a 0 999 && btw b 1 50) = true
        · rw [if_pos hg]
          rw [hg, Bool.true_and] at q
          refine ⟨c, 1, 100, rfl, ha c (by simp), ?_⟩
          walk_at "rd"
          by_cases hc : btw c 1 100 = true
          · rw [if_pos hc]
            rw [hc, Bool.true_and] at q
            exact ⟨d, 1, 12, rfl, ha d (by simp), q⟩
          · rw [if_neg hc]
            rw [Bool.eq_false_iff.mpr hc, Bool.false_and] at q
            exact q
        · rw [if_neg hg]
          rw [Bool.eq_false_iff.mpr hg, Bool.false_and] at q
          exact q
      by_cases h1 : btw a 0 999 = true
      · rw [if_pos h1]
        refine ⟨b, 1, 50, rfl, ha b (by simp), ?_⟩
        exact k2 _ (by rw [h1, Bool.true_and]) none
      · rw [if_neg h1]
        exact k2 false (by rw [Bool.eq_false_iff.mpr h1, Bool.false_and]) none
  · have : isPlan l = false := by
      unfold isPlan
      split
      · exact absurd rfl hl
      · rfl
    rw [this] at q
    rw [if_pos (by simp; omega)]
    exact q
theorem pure_need_plan (C : Addr) (ds : List D) (G : DH) (R : DK) (EX : DX) (h : sd_need_plan C ds G R EX) : b_need_plan C (endsD (frg R) EX) (startD N_need_plan ds) G := by
  obtain ⟨l, rfl, ha, q1, q2⟩ := h
  show b_need_plan C (endsD (frg R) EX) [some (.tup l)] G
  unfold b_need_plan
  walk_at "rd"
  refine ⟨l, rfl, ha, ?_⟩
  walk_at "rd"
  cases e : isPlan l with
  | true => exact frg_of (q1 e)
  | false => exact q2 e
theorem pure_change_of (ds : List D) (G : DH) (R : DK) (EX : DX) (h : sd_change_of ds G R EX) : b_change_of (endsD (frg R) EX) (startD N_change_of ds) G := by
  obtain ⟨os, k, rfl, q⟩ := h
  have q := frg_of q
  show b_change_of (endsD (frg R) EX) [some (onesD os), some (.int k), none, none, none] G
  unfold b_change_of sSeq sFor onesD
  rw [vsq_tup rfl]
  refine goFor_map (fun xs δ G' => δ.length = 5 ∧ (∃ o2 o3 o4, δ = [some (.tup (os.map One.d)), some (.int k), o2, o3, o4]) ∧ G' = G ∧ chg xs k = chg os k) (fun _ _ _ _ => trivial) (fun δ G' ⟨_, ⟨o2, o3, o4, e⟩, eG, ec⟩ => ?_) (fun x xs δ G' N ⟨_, ⟨o2, o3, o4, e⟩, eG, ec⟩ hN => ?_) _ _ _ ⟨rfl, ⟨_, _, _, rfl⟩, rfl, rfl⟩
  · subst e eG
    rw [← ec] at q
    walk_at "rd"
    exact q
  · subst e eG
    unfold One.d
    walk_at "rd"
    by_cases h : x.k = k
    · rw [if_pos h]
      have e : chg (x :: xs) k = (x.n, x.b) := by
        unfold chg
        rw [List.find?_cons_of_pos (by simp [h])]
      rw [← ec, e] at q
      exact q
    · rw [if_neg h]
      refine hN _ _ ⟨rfl, ⟨_, _, _, rfl⟩, rfl, ?_⟩
      rw [← ec]
      unfold chg
      rw [List.find?_cons_of_neg (by simp [h])]
theorem pure_changed (ds : List D) (G : DH) (R : DK) (EX : DX) (h : sd_changed ds G R EX) : b_changed (endsD (frg R) EX) (startD N_changed ds) G := by
  obtain ⟨os, k, b, rfl, hl, q⟩ := h
  have q := frg_of q
  show b_changed (endsD (frg R) EX) [some (onesD os), some (.int k), some (oD b), none, none, none] G
  unfold b_changed
  walk_at "rd"
  refine ⟨os, k, rfl, ?_⟩
  walk_at "rd"
  unfold dLcF onesD
  rw [vsq_tup rfl]
  refine goLcF_map (fun o : One => if o.k = k then none else some o.d) trivial (fun x C1 C2 hx => ?_) os [] (by simp; exact sz_small (by omega)) ?_
  · unfold One.d
    walk_at "rd"
    by_cases h : x.k = k
    · simp only [h, if_true] at hx
      simp only [h, decide_true, Bool.not_true, Bool.false_eq_true, if_false]
      exact hx
    · simp only [h, if_false] at hx
      simp only [h, decide_false, Bool.not_false, if_true]
      exact hx
  · have e : (os.filterMap fun o : One => if o.k = k then none else some o.d) = (os.filter fun o => !decide (o.k = k)).map One.d := by
      clear hl
      revert os
      intro os q q'
      clear q q'
      induction os with
      | nil => rfl
      | cons o os ih =>
        rw [List.filterMap_cons, List.filter_cons, ih]
        by_cases h : o.k = k
        · simp [h]
        · simp [h]
    rw [e, List.nil_append]
    walk_at "rd"
    simp only [dSortGF]
    walk_at "rd"
    have hf := List.length_filter_le (fun o : One => !decide (o.k = k)) os
    refine ⟨by rw [List.length_map]; exact sz_small (by omega), ?_⟩
    have e2 : ((os.filter fun o : One => !decide (o.k = k)).map One.d ++ [D.tup [.int k, .int ((chg os k).1 + 1), oD b]]) = ((os.filter fun o : One => !decide (o.k = k)) ++ [(⟨k, (chg os k).1 + 1, b⟩ : One)]).map One.d := by
      rw [List.map_append]; rfl
    rw [e2]
    refine ⟨_, ((os.filter fun o : One => !decide (o.k = k)) ++ [(⟨k, (chg os k).1 + 1, b⟩ : One)]).map One.k, rfl, ?_, ?_, ?_⟩
    · rw [List.map_map, List.map_map]
      refine List.map_congr_left fun o _ => rfl
    · rw [List.length_map, List.length_append]; exact sz_small (by simp; omega)
    · rw [sortG_map]
      exact q
theorem rows_loop {p : Plan} {os : List One} {f : Addr} {G : DH} {Dn : DEnds} (hm0 : 0 ≤ p.m) (hm : p.m ≤ 1000) (hf : G f = none)
    (q : ∀ o7 o8 o9, Dn.nx [some p.d, some (onesD os), some (.int p.b), some (.int p.l), some (.int p.e), some (.int p.m), some (.ref f), o7, o8, o9] (updD G f (.lst ((rowsOf p os).map Row.d)))) :
    sFor (iRange1 (dVar 5)) (gN 7) (sSeq (sAsg (dCall sd_change_of (dCons (dVar 1) (dCons (dVar 7) dNil))) (gT 2 (gsCons (gN 8) (gsCons (gN 9) gsNil))))
  (sDrop (dBM "list" mAppend (dVar 6) (dCons (dTup (dCons (dVar 7) (dCons (dIf (dTest (dOp dEq (dVar 8) (dC (.int 0)))) (dOp dAddF (dVar 2) (dOp dMulF (dVar 7) (dVar 4))) (dVar 9)) (dCons (dVar 8) dNil)))) dNil)))) Dn [some p.d, some (onesD os), some (.int p.b), some (.int p.l), some (.int p.e), some (.int p.m), some (.ref f), none, none, none] (updD G f (.lst [])) := by
  unfold sFor iRange1
  walk_at "rd"
  refine ⟨⟨by omega, by omega⟩, ?_⟩
  rw [rangeD_map]
  refine goFor_map (f := fun i : Nat => D.int (i : Int)) (fun xs δ G' => (∃ o7 o8 o9, δ = [some p.d, some (onesD os), some (.int p.b), some (.int p.l), some (.int p.e), some (.int p.m), some (.ref f), o7, o8, o9]) ∧ ∃ pre, pre ++ xs = List.range p.m.toNat ∧ G' = updD G f (.lst ((pre.map (rowOf p os)).map Row.d))) (fun _ _ _ _ => trivial) (fun δ G' ⟨⟨o7, o8, o9, e⟩, pre, ep, eG⟩ => ?_) (fun x xs δ G' N ⟨⟨o7, o8, o9, e⟩, pre, ep, eG⟩ hN => ?_) _ _ _ ⟨⟨_, _, _, rfl⟩, [], rfl, rfl⟩
  · subst e eG
    rw [List.append_nil] at ep
    subst ep
    exact q _ _ _
  · subst e eG
    walk_at "rd"
    refine ⟨os, x, rfl, ?_⟩
    walk_at "rd"
    have hx : x ≤ 1000 := by
      have h1 : x ∈ List.range p.m.toNat := by rw [← ep]; simp
      have := List.mem_range.mp h1
      omega
    have nxt : N [some p.d, some (onesD os), some (.int p.b), some (.int p.l), some (.int p.e), some (.int p.m), some (.ref f), some (.int x), some (.int (chg os x).1), some (oD (chg os x).2)] (updD G f (.lst ((pre.map (rowOf p os)).map Row.d ++ [(rowOf p os x).d]))) := hN _ _ ⟨⟨_, _, _, rfl⟩, pre ++ [x], by rw [List.append_assoc]; exact ep, by rw [List.map_append, List.map_append]; rfl⟩
    have hl : ((pre.map (rowOf p os)).map Row.d).length < sizeLine := by
      have := congrArg List.length ep
      rw [List.length_append, List.length_range, List.length_cons] at this
      rw [List.length_map, List.length_map]
      exact Nat.lt_of_lt_of_le (show pre.length < 100000 by omega) (by rw [sizeLine_eq]; omega)
    unfold rowOf Row.d at nxt
    dsimp only at nxt
    by_cases h0 : (chg os x).1 = 0
    · rw [if_pos h0] at nxt ⊢
      exact ⟨by unfold CMul; omega, hl, nxt⟩
    · rw [if_neg h0] at nxt ⊢
      exact ⟨hl, nxt⟩
theorem pure_rows_of (ds : List D) (G : DH) (R : DK) (EX : DX) (h : sd_rows_of ds G R EX) : b_rows_of (endsD (frg R) EX) (startD N_rows_of ds) G := by
  obtain ⟨p, os, rfl, hm0, hm, q⟩ := h
  have q := frg_of q
  show b_rows_of (endsD (frg R) EX) [some p.d, some (onesD os), none, none, none, none, none, none, none, none] G
  unfold b_rows_of Plan.d Plan.ds
  walk_at "rd"
  intro f hf
  refine rows_loop (p := p) hm0 hm hf fun o7 o8 o9 => ?_
  dsimp only
  refine sFz_lst rfl updD_same ?_
  rw [delD_updD hf]
  walk_at "rd"
  exact q
theorem pure_rows_of' (ds : List D) (G : DH) (R : DK) (EX : DX) (h : sd_rows_of' ds G R EX) : b_rows_of' (endsD (frg R) EX) (startD N_rows_of ds) G := by
  obtain ⟨p, os, rfl, hm0, hm, q⟩ := h
  show b_rows_of' (endsD (frg R) EX) [some p.d, some (onesD os), none, none, none, none, none, none, none, none] G
  unfold b_rows_of' Plan.d Plan.ds
  walk_at "rd"
  intro f hf
  refine rows_loop (p := p) hm0 hm hf fun o7 o8 o9 => ?_
  walk_at "rd"
  exact frg_of (q f hf)
end Pl
/-! ### k15: the plain law -/
namespace K15
open PySem PySem.Spec PyProof.Rows L2 Cc
open PySem.W (dataLe keyToks keyToksAll AllAlike Sortable alike alikeAll)
theorem sort_perm {α : Type} {enc : α → PyData} (inj : ∀ a b, keyToks (enc a) = keyToks (enc b) → a = b) {l l' : List α} (h : l.Perm l') : l.mergeSort (dataLe false enc) = l'.mergeSort (dataLe false enc) := by
  have T := PySem.W.sortLe_total (PyProof.Rows.listOrd PyProof.Rows.itemOrd) false fun b : α => keyToks (enc b)
  refine List.Perm.eq_of_pairwise (le := fun a b => dataLe false enc a b = true) (fun a b _ _ h1 h2 => ?_) (PySem.W.sort_pairwise T l) (PySem.W.sort_pairwise T l') (((List.mergeSort_perm _ _).trans h).trans (List.mergeSort_perm _ _).symm)
  have h1' : (!(PyProof.Rows.listOrd PyProof.Rows.itemOrd).blt (keyToks (enc b)) (keyToks (enc a))) = true := h1
  have h2' : (!(PyProof.Rows.listOrd PyProof.Rows.itemOrd).blt (keyToks (enc a)) (keyToks (enc b))) = true := h2
  rw [Bool.not_eq_true'] at h1' h2'
  exact inj a b ((PyProof.Rows.listOrd PyProof.Rows.itemOrd).total _ _ h2' h1')
/-! keys, moments, clashes -/
structure K3 where
  h : Int
  n : Int
  k : Int
structure T5 where
  b : Int
  e : Int
  key : K3
def K3.d (x : K3) : D := .tup [.int x.h, .int x.n, .int x.k]
def K3.p (x : K3) : PyData := .tuple [.int x.h, .int x.n, .int x.k]
def T5.d (x : T5) : D := .tup [.int x.b, .int x.e, .int x.key.h, .int x.key.n, .int x.key.k]
def T5.p (x : T5) : PyData := .tuple [.int x.b, .int x.e, .int x.key.h, .int x.key.n, .int x.key.k]
theorem K3.toks (x : K3) : keyToks x.p = [.inl 1, .inl x.h, .inl 1, .inl x.n, .inl 1, .inl x.k, .inl 0] := by
  simp [K3.p, keyToks, keyToksAll]
theorem T5.toks (x : T5) : keyToks x.p = [.inl 1, .inl x.b, .inl 1, .inl x.e, .inl 1, .inl x.key.h, .inl 1, .inl x.key.n, .inl 1, .inl x.key.k, .inl 0] := by
  simp [T5.p, keyToks, keyToksAll]
theorem K3.inj (x y : K3) (h : keyToks x.p = keyToks y.p) : x = y := by
  rw [K3.toks, K3.toks] at h
  obtain ⟨a, b, c⟩ := x
  obtain ⟨a', b', c'⟩ := y
  simp only [List.cons.injEq, Sum.inl.injEq, true_and, and_true] at h
  obtain ⟨rfl, rfl, rfl⟩ := h
  rfl
theorem T5.inj (x y : T5) (h : keyToks x.p = keyToks y.p) : x = y := by
  rw [T5.toks, T5.toks] at h
  obtain ⟨a, b, c, d, e⟩ := x
  obtain ⟨a', b', c', d', e'⟩ := y
  simp only [List.cons.injEq, Sum.inl.injEq, true_and, and_true] at h
  obtain ⟨rfl, rfl, rfl, rfl, rfl⟩ := h
  rfl
abbrev Cl := List K3
def clP (l : Cl) : PyData := .tuple (l.map K3.p)
def clD (l : Cl) : D := .tup (l.map K3.d)
theorem cl_toks : ∀ (l l' : Cl) (r r' : List (Int ⊕ List Nat)), keyToksAll (l.map K3.p) ++ r = keyToksAll (l'.map K3.p) ++ r' → l = l'
  | [], [], _, _, _ => rfl
  | [], y :: ys, r, r', h => by
    simp [keyToksAll] at h
  | x :: xs, [], r, r', h => by
    simp [keyToksAll] at h
  | x :: xs, y :: ys, r, r', h => by
    rw [List.map_cons, List.map_cons, keyToksAll, keyToksAll, K3.toks, K3.toks] at h
    simp only [List.cons_append, List.nil_append, List.append_assoc, List.cons.injEq, Sum.inl.injEq, true_and, and_true] at h
    obtain ⟨h1, h2, h3, h4⟩ := h
    have e : x = y := by
      obtain ⟨a, b, c⟩ := x
      obtain ⟨a', b', c'⟩ := y
      cases h1
      cases h2
      cases h3
      rfl
    rw [e, cl_toks xs ys r r' h4]
theorem cl_inj (l l' : Cl) (h : keyToks (clP l) = keyToks (clP l')) : l = l' := by
  refine cl_toks l l' [] [] ?_
  rw [List.append_nil, List.append_nil]
  unfold clP at h
  rw [keyToks, keyToks] at h
  exact h
/-- the two keys, the less one first -/
def two (x y : K3) : Cl := [x, y].mergeSort (dataLe false K3.p)
theorem two_comm (x y : K3) : two x y = two y x := sort_perm K3.inj (List.Perm.swap y x [])
theorem two_len (x y : K3) : (two x y).length = 2 := by unfold two; rw [List.length_mergeSort]; rfl
/-! pairs -/
def meet (x y : T5) : Option Cl := if x.b < y.e ∧ y.b < x.e then some (two x.key y.key) else none
theorem meet_comm (x y : T5) : meet x y = meet y x := by
  unfold meet
  rw [two_comm]
  by_cases h : x.b < y.e ∧ y.b < x.e
  · rw [if_pos h, if_pos ⟨h.2, h.1⟩]
  · rw [if_neg h, if_neg fun z => h ⟨z.2, z.1⟩]
def pairs : List T5 → List Cl
  | [] => []
  | x :: xs => xs.filterMap (meet x) ++ pairs xs
theorem pairs_perm {l l' : List T5} (h : l.Perm l') : (pairs l).Perm (pairs l') := by
  induction h with
  | nil => exact .refl _
  | cons x h ih => exact (h.filterMap _).append ih
  | swap x y l =>
    unfold pairs pairs
    rw [List.filterMap_cons, List.filterMap_cons, meet_comm y x]
    cases meet x y with
    | none =>
      simp only
      rw [← List.append_assoc, ← List.append_assoc]
      exact List.perm_append_comm.append_right _
    | some c =>
      simp only [List.cons_append]
      refine List.Perm.cons _ ?_
      rw [← List.append_assoc, ← List.append_assoc]
      exact List.perm_append_comm.append_right _
  | trans _ _ h1 h2 => exact h1.trans h2
/-- as the program looks -/
def meet1 (x y : T5) : Option Cl := if y.b < x.e then some (two x.key y.key) else none
def pairs1 : List T5 → List Cl
  | [] => []
  | x :: xs => xs.filterMap (meet1 x) ++ pairs1 xs
theorem fm_congr {α β : Type} {f g : α → Option β} : ∀ {l : List α}, (∀ x ∈ l, f x = g x) → l.filterMap f = l.filterMap g
  | [], _ => rfl
  | x :: xs, h => by rw [List.filterMap_cons, List.filterMap_cons, h x List.mem_cons_self, fm_congr fun y hy => h y (List.mem_cons_of_mem _ hy)]
theorem pairs1_eq : ∀ {l : List T5}, l.Pairwise (fun x y => x.b ≤ y.b) → (∀ x ∈ l, x.b < x.e) → pairs1 l = pairs l
  | [], _, _ => rfl
  | x :: xs, h, g => by
    obtain ⟨h1, h2⟩ := List.pairwise_cons.mp h
    have e : xs.filterMap (meet1 x) = xs.filterMap (meet x) := by
      refine fm_congr fun y hy => ?_
      unfold meet1 meet
      have a := h1 y hy
      have b := g y (List.mem_cons_of_mem _ hy)
      by_cases z : y.b < x.e
      · rw [if_pos z, if_pos ⟨by omega, z⟩]
      · rw [if_neg z, if_neg fun w => z w.2]
    unfold pairs1 pairs
    rw [e, pairs1_eq h2 fun y hy => g y (List.mem_cons_of_mem _ hy)]
def sortT (l : List T5) : List T5 := l.mergeSort (dataLe false T5.p)
def sortC (l : List Cl) : List Cl := l.mergeSort (dataLe false clP)
theorem lt_first {x y : T5} (h : y.b < x.b) : PySem.W.dataLt y.p x.p = true := by
  unfold T5.p
  rw [PySem.W.dataLt_tuple, PySem.W.dataLt_cons (by simp [alike])]
  simp only [PyData.eqv, beq_iff_eq]
  rw [if_neg (by omega), PySem.W.dataLt_int]
  exact decide_eq_true h
theorem sortT_rises (l : List T5) : (sortT l).Pairwise fun x y => x.b ≤ y.b := by
  have T := PySem.W.sortLe_total (PyProof.Rows.listOrd PyProof.Rows.itemOrd) false fun b : T5 => keyToks b.p
  refine (PySem.W.sort_pairwise T l).imp fun {x y} h => ?_
  have h' : (!PySem.W.dataLt y.p x.p) = true := h
  rw [Bool.not_eq_true'] at h'
  by_cases z : y.b < x.b
  · rw [lt_first z] at h'
    cases h'
  · omega
theorem clash_eq {l : List T5} (g : ∀ x ∈ l, x.b < x.e) : sortC (pairs1 (sortT l)) = sortC (pairs l) := by
  have p : (sortT l).Perm l := List.mergeSort_perm _ _
  rw [pairs1_eq (sortT_rises l) fun x hx => g x (p.mem_iff.mp hx)]
  exact sort_perm cl_inj (pairs_perm p)
end K15
/-! ### k15: books, promises -/
namespace K15
open PySem PySem.Spec PyProof.Rows L2 Cc
open PySem.W (dataLe EachIs AllAlike Sortable)
structure Gu where
  hand : Int
  by_ : Option Int
  words : List Str
structure Mo where
  k : Nat
  beg : Option Int
  often : Int
structure Me where
  h : Int
  n : Int
  v : Int
  long : Int
  mos : List Mo
  gus : List Gu
def oD : Option Int → D
  | none => .non
  | some i => .int i
def oP : Option Int → PyData
  | none => .none
  | some i => .int i
def Mo.d (m : Mo) : D := .tup [.int (m.k : Int), oD m.beg, .int m.often]
def Mo.p (m : Mo) : PyData := .tuple [.int (m.k : Int), oP m.beg, .int m.often]
def Gu.p (g : Gu) : PyData := .tuple [.int g.hand, oP g.by_, .list (g.words.map .str)]
def Me.p (m : Me) : PyData := .tuple [.int m.h, .int m.n, .int m.v, .str "", .int m.long, .list (m.mos.map Mo.p), .list (m.gus.map Gu.p)]
def GuAt (G : DH) (d : D) (g : Gu) : Prop := ∃ w, d = .tup [.int g.hand, oD g.by_, .ref w] ∧ G w = some (.lst (g.words.map .str))
def MeAt (G : DH) (d : D) (m : Me) : Prop := ∃ p q lg, d = .tup [.int m.h, .int m.n, .int m.v, .str "", .int m.long, .ref p, .ref q] ∧ G p = some (.lst (m.mos.map Mo.d)) ∧ G q = some (.lst lg) ∧ EachIs (GuAt G) lg m.gus
def BookAt (G : DH) (x : D) (B : List Me) : Prop := ∃ a l, x = .ref a ∧ G a = some (.lst l) ∧ EachIs (MeAt G) l B
structure Gu.Ok (g : Gu) : Prop where
  txt : ∀ w ∈ g.words, PyData.canLay0 (.str w) = true
  few : g.words.length ≤ 100
structure Me.Ok (m : Me) : Prop where
  long : 0 < m.long
  ks : ∀ mo ∈ m.mos, ∀ g ∈ m.gus, mo.k < g.words.length
  one : ∀ me, (m.gus.filter fun g => decide (g.hand = me)).length ≤ 1
  gus : ∀ g ∈ m.gus, g.Ok
  fewM : m.mos.length ≤ 10
  fewG : m.gus.length ≤ 100
structure Ok (B : List Me) : Prop where
  me : ∀ m ∈ B, m.Ok
  few : B.length ≤ 30
theorem GuAt.sub {G G' : DH} (s : Sub G G') {d : D} {g : Gu} (h : GuAt G d g) : GuAt G' d g := by
  obtain ⟨w, e, h⟩ := h
  exact ⟨w, e, s _ _ h⟩
theorem MeAt.sub {G G' : DH} (s : Sub G G') {d : D} {m : Me} (h : MeAt G d m) : MeAt G' d m := by
  obtain ⟨p, q, lg, e, h1, h2, h3⟩ := h
  exact ⟨p, q, lg, e, s _ _ h1, s _ _ h2, h3.mono fun _ _ z => z.sub s⟩
theorem BookAt.sub {G G' : DH} (s : Sub G G') {x : D} {B : List Me} (h : BookAt G x B) : BookAt G' x B := by
  obtain ⟨a, l, e, h1, h2⟩ := h
  exact ⟨a, l, e, s _ _ h1, h2.mono fun _ _ z => z.sub s⟩
theorem rdd_oD {G : DH} (o : Option Int) : Rdd G (oD o) (oP o) := by
  cases o with
  | none => exact .non
  | some i => exact .int i
theorem Mo.rdd {G : DH} (m : Mo) : Rdd G m.d m.p := .tup rfl (.cons (.int _) (.cons (rdd_oD _) (.cons (.int _) .nil)))
theorem GuAt.rdd {G : DH} {d : D} {g : Gu} (h : GuAt G d g) : Rdd G d g.p := by
  obtain ⟨w, rfl, e⟩ := h
  exact .tup rfl (.cons (.int _) (.cons (rdd_oD _) (.cons (.lst e (rdd_map fun x _ => .str x)) .nil)))
theorem MeAt.rdd {G : DH} {d : D} {m : Me} (h : MeAt G d m) : Rdd G d m.p := by
  obtain ⟨p, q, lg, rfl, h1, h2, h3⟩ := h
  exact .tup rfl (.cons (.int _) (.cons (.int _) (.cons (.int _) (.cons (.str _) (.cons (.int _) (.cons (.lst h1 (rdd_map fun x _ => x.rdd)) (.cons (.lst h2 (rdd_each (fun _ _ z => z.rdd) h3)) .nil)))))))
theorem lay_oP (o : Option Int) : (oP o).canLay0 = true ∧ (oP o).depth = 0 := by
  cases o with
  | none => exact ⟨by simp [oP, PyData.canLay0], by simp [oP, PyData.depth]⟩
  | some i => exact ⟨by simp [oP, PyData.canLay0], by simp [oP, PyData.depth]⟩
theorem Mo.lay (m : Mo) : m.p.canLay0 = true ∧ m.p.depth ≤ 1 := by
  obtain ⟨h1, h2⟩ := lay_oP m.beg
  unfold Mo.p
  simp only [PyData.canLay0, PyData.canLayAll0, PyData.depth, PyData.depthAll, h1, h2]
  exact ⟨rfl, by omega⟩
theorem Gu.Ok.lay {g : Gu} (h : g.Ok) : g.p.canLay0 = true ∧ g.p.depth ≤ 2 := by
  obtain ⟨h1, h2⟩ := lay_oP g.by_
  have h3 : PyData.canLayAll0 (g.words.map .str) = true := lay_map h.txt
  have h4 : PyData.depthAll (g.words.map .str) ≤ 0 := dep_map fun x _ => by simp [PyData.depth]
  unfold Gu.p
  simp only [PyData.canLay0, PyData.canLayAll0, PyData.depth, PyData.depthAll, h1, h2, h3]
  exact ⟨rfl, by omega⟩
theorem Me.Ok.lay {m : Me} (h : m.Ok) : m.p.canLay0 = true ∧ m.p.depth ≤ 4 := by
  have h3 : PyData.canLayAll0 (m.mos.map Mo.p) = true := lay_map fun x _ => x.lay.1
  have h4 : PyData.depthAll (m.mos.map Mo.p) ≤ 1 := dep_map fun x _ => x.lay.2
  have h5 : PyData.canLayAll0 (m.gus.map Gu.p) = true := lay_map fun x hx => (h.gus x hx).lay.1
  have h6 : PyData.depthAll (m.gus.map Gu.p) ≤ 2 := dep_map fun x hx => (h.gus x hx).lay.2
  have h7 : PyData.canLay0 (.str "") = true := by decide +kernel
  unfold Me.p
  simp only [PyData.canLay0, PyData.canLayAll0, PyData.depth, PyData.depthAll, h3, h5]
  rw [PyData.canLay0] at h7
  rw [h7]
  exact ⟨rfl, by omega⟩
def bookP (B : List Me) : PyData := .list (B.map Me.p)
theorem Ok.shaped {B : List Me} (h : Ok B) : SeqAt.shaped (bookP B) = true := by
  refine shaped_by ?_ ?_
  · unfold bookP
    rw [PyData.canLay0]
    exact lay_map fun x hx => (h.me x hx).lay.1
  · have : PyData.depthAll (B.map Me.p) ≤ 4 := dep_map fun x hx => (h.me x hx).lay.2
    unfold bookP
    rw [PyData.depth]
    omega
/-! what is computed -/
def off (m : Me) (k : Nat) (me : Int) : Bool := match m.gus.filter fun g => decide (g.hand = me) with
  | [] => false
  | g :: _ => (match g.words[k]? with
    | some w => decide (w = "no") || decide (w = "passed")
    | none => false)
def mT (m : Me) (me : Int) (mo : Mo) : Option T5 := match mo.beg with
  | none => none
  | some b => if off m mo.k me = true then none else some ⟨b, b + m.long, ⟨m.h, m.n, mo.k⟩⟩
def timesM (B : List Me) (me : Int) : List T5 := B.flatMap fun m => m.mos.filterMap (mT m me)
theorem mT_lt {m : Me} (h : m.Ok) {me : Int} {mo : Mo} {t : T5} (e : mT m me mo = some t) : t.b < t.e := by
  unfold mT at e
  split at e
  · cases e
  · split at e
    · cases e
    · cases e
      have := h.long
      dsimp only
      omega
theorem times_lt {B : List Me} (h : Ok B) {me : Int} : ∀ x ∈ timesM B me, x.b < x.e := fun x hx => by
  obtain ⟨m, hm, hx⟩ := List.mem_flatMap.mp hx
  obtain ⟨mo, _, e⟩ := List.mem_filterMap.mp hx
  exact mT_lt (h.me m hm) e
theorem times_len {B : List Me} (h : Ok B) {me : Int} : (timesM B me).length ≤ 300 := by
  have : ∀ B : List Me, (∀ m ∈ B, m.Ok) → (timesM B me).length ≤ B.length * 10 := fun B => by
    induction B with
    | nil => intro _; exact Nat.le_refl _
    | cons m B ih =>
      intro h
      have h1 := ih fun y hy => h y (List.mem_cons_of_mem _ hy)
      have h2 := List.length_filterMap_le (mT m me) m.mos
      have h3 := (h m List.mem_cons_self).fewM
      unfold timesM at h1 ⊢
      rw [List.flatMap_cons, List.length_append, List.length_cons]
      omega
  have := this B h.me
  have := h.few
  omega
theorem pairs_len : ∀ l : List T5, (pairs1 l).length ≤ l.length * l.length
  | [] => Nat.le_refl _
  | x :: xs => by
    have h1 := List.length_filterMap_le (meet1 x) xs
    have h2 := pairs_len xs
    unfold pairs1
    rw [List.length_append, List.length_cons, Nat.succ_mul, Nat.mul_succ]
    omega
theorem pairs_few {l : List T5} (h : l.length ≤ 300) : (pairs1 l).length ≤ 90000 := Nat.le_trans (pairs_len l) (Nat.mul_le_mul h h)
def sd_times_of : SpD := fun ds G R _ => ∃ x me B, ds = [x, .int me] ∧ BookAt G x B ∧ Ok B ∧ ∀ p, G p = none → R (.ref p) (updD G p (.lst ((sortT (timesM B me)).map T5.d)))
def sd_clashes : SpD := fun ds G R _ => ∃ x me B, ds = [x, .int me] ∧ BookAt G x B ∧ Ok B ∧ ∀ p, G p = none → R (.ref p) (updD G p (.lst ((sortC (pairs1 (sortT (timesM B me)))).map clD)))
def T5.d2 (x : T5) : D := .tup [.int x.b, .int x.e, x.key.d]
def sd__law_times : SpD := fun ds G R _ => ∃ x me B, ds = [x, .int me] ∧ BookAt G x B ∧ Ok B ∧ ∀ p, G p = none → R (.ref p) (updD G p (.lst ((timesM B me).map T5.d2)))
def sd__law_book : SpD := fun ds G R _ => ∃ a l, ds = [.ref a] ∧ G a = some (.lst l) ∧ Draws l ∧ ∀ x B l' G' G1, G' a = some (.lst l') → Draws l' → Sub G1 G' → G1 a = none → BookAt G1 x B → Ok B → R x G'
end K15
/-! ### k16: books as values, promises, the plain law -/
namespace K16
open PySem PySem.Spec PyProof.Rows L2 Cc K15
open PySem.W (EachIs AllAlike Sortable dataLe)
def guD (g : Gu) : D := .tup [.int g.hand, oD g.by_, .rol (g.words.map .str)]
def meD (m : Me) : D := .tup [.int m.h, .int m.n, .int m.v, .str "", .int m.long, .rol (m.mos.map Mo.d), .rol (m.gus.map guD)]
def bkD (B : List Me) : D := .rol (B.map meD)
theorem rdd_gu {G : DH} (g : Gu) : Rdd G (guD g) g.p := .tup rfl (.cons (.int _) (.cons (rdd_oD _) (.cons (.rol (rdd_map fun x _ => .str x)) .nil)))
theorem rdd_me {G : DH} (m : Me) : Rdd G (meD m) m.p := .tup rfl (.cons (.int _) (.cons (.int _) (.cons (.int _) (.cons (.str _) (.cons (.int _) (.cons (.rol (rdd_map fun x _ => x.rdd)) (.cons (.rol (rdd_map fun x _ => rdd_gu x)) .nil)))))))
theorem rdd_bk {G : DH} (B : List Me) : Rdd G (bkD B) (bookP B) := .rol (rdd_map fun m _ => rdd_me m)
abbrev Bk := Int × List Me
def pbD (b : Bk) : D := .tup [.int b.1, bkD b.2]
def pbP (b : Bk) : PyData := .tuple [.int b.1, bookP b.2]
theorem rdd_pb {G : DH} (b : Bk) : Rdd G (pbD b) (pbP b) := .tup rfl (.cons (.int _) (.cons (rdd_bk _) .nil))
theorem shaped_pbs {Bs : List Bk} (h : ∀ b ∈ Bs, Ok b.2) : SeqAt.shaped (.list (Bs.map pbP)) = true := by
  have one : ∀ b ∈ Bs, (pbP b).canLay0 = true ∧ (pbP b).depth ≤ 7 := fun b hb => by
    have hs := (h b hb).shaped
    unfold SeqAt.shaped at hs
    rw [Bool.and_eq_true] at hs
    have hd : (bookP b.2).depth ≤ 5 := by
      have : PyData.depthAll (b.2.map Me.p) ≤ 4 := dep_map fun x hx => ((h b hb).me x hx).lay.2
      unfold bookP
      rw [PyData.depth]
      omega
    unfold pbP
    simp only [PyData.canLay0, PyData.canLayAll0, PyData.depth, PyData.depthAll, hs.1]
    exact ⟨rfl, by omega⟩
  refine shaped_by ?_ ?_
  · rw [PyData.canLay0]; exact lay_map fun b hb => (one b hb).1
  · rw [PyData.depth]
    have : PyData.depthAll (Bs.map pbP) ≤ 7 := dep_map fun b hb => (one b hb).2
    omega
/-! the moment -/
def clash (lg : Int) (t : T5) (x : Int) : Bool := decide (t.b < x + lg) && decide (x < t.e)
def step (lg here : Int) (t : T5) : Int := if clash lg t here = true then t.e else here
def freeM (T : List T5) (lo lg : Int) : Int := (sortT T).foldl (step lg) lo
theorem fold_least {lg : Int} {T : List T5} : ∀ (l : List T5) (lo here : Int), (∀ t ∈ l, t ∈ T) → l.Pairwise (fun x y => x.b ≤ y.b) → lo ≤ here → (∀ x, lo ≤ x → x < here → ∃ t ∈ T, clash lg t x = true) →
    lo ≤ l.foldl (step lg) here ∧ here ≤ l.foldl (step lg) here ∧ (∀ x, lo ≤ x → x < l.foldl (step lg) here → ∃ t ∈ T, clash lg t x = true) ∧ ∀ t ∈ l, clash lg t (l.foldl (step lg) here) = false
  | [], lo, here, _, _, h, h2 => ⟨h, Int.le_refl _, h2, fun t ht => by cases ht⟩
  | t :: ts, lo, here, hm, hs, h, h2 => by
    obtain ⟨s1, s2⟩ := List.pairwise_cons.mp hs
    rw [List.foldl_cons]
    have hge : here ≤ step lg here t := by
      unfold step clash
      split
      · rename_i c
        rw [Bool.and_eq_true, decide_eq_true_eq, decide_eq_true_eq] at c
        omega
      · exact Int.le_refl _
    have h3 : ∀ x, lo ≤ x → x < step lg here t → ∃ t ∈ T, clash lg t x = true := fun x x0 x1 => by
      by_cases hx : x < here
      · exact h2 x x0 hx
      · refine ⟨t, hm t List.mem_cons_self, ?_⟩
        unfold step at x1
        split at x1
        · rename_i c
          unfold clash at c ⊢
          rw [Bool.and_eq_true, decide_eq_true_eq, decide_eq_true_eq] at c ⊢
          omega
        · omega
    obtain ⟨a, b, c, d⟩ := fold_least ts lo (step lg here t) (fun u hu => hm u (List.mem_cons_of_mem _ hu)) s2 (by omega) h3
    refine ⟨a, by omega, c, fun u hu => ?_⟩
    rcases List.mem_cons.mp hu with rfl | hu
    · -- u itself: where it clashed, it is past; else it ends ahead, or begins behind the end of what is asked; later ones only push on what begins ahead
      unfold clash
      rw [Bool.and_eq_false_iff, decide_eq_false_iff_not, decide_eq_false_iff_not]
      by_cases cl : clash lg u here = true
      · have e : step lg here u = u.e := if_pos cl
        right
        omega
      · have e : step lg here u = here := if_neg cl
        rw [e] at b ⊢
        unfold clash at cl
        rw [Bool.and_eq_true, decide_eq_true_eq, decide_eq_true_eq] at cl
        by_cases he : here < u.e
        · left
          -- u begins behind; so do all behind it: nothing moves
          have stay : ∀ (l : List T5), (∀ v ∈ l, u.b ≤ v.b) → l.foldl (step lg) here = here := fun l => by
            induction l with
            | nil => intro _; rfl
            | cons v vs ih =>
              intro hv
              have hvb := hv v List.mem_cons_self
              have e1 : step lg here v = here := by
                unfold step
                rw [if_neg]
                unfold clash
                rw [Bool.and_eq_true, decide_eq_true_eq, decide_eq_true_eq]
                omega
              rw [List.foldl_cons, e1]
              exact ih fun w hw => hv w (List.mem_cons_of_mem _ hw)
          rw [stay ts s1]
          omega
        · right
          omega
    · exact d u hu
theorem free_least (T : List T5) (lo lg : Int) : lo ≤ freeM T lo lg ∧ (∀ x, lo ≤ x → x < freeM T lo lg → ∃ t ∈ T, clash lg t x = true) ∧ ∀ t ∈ T, clash lg t (freeM T lo lg) = false := by
  have hm : ∀ t, t ∈ sortT T ↔ t ∈ T := fun t => (List.mergeSort_perm T _).mem_iff
  obtain ⟨a, _, c, d⟩ := fold_least (lg := lg) (T := T) (sortT T) lo lo (fun t ht => (hm t).mp ht) (sortT_rises T) (Int.le_refl _) (fun x x0 x1 => by omega)
  exact ⟨a, c, fun t ht => d t ((hm t).mpr ht)⟩
/-! the promises -/
def timesA (Bs : List Bk) : List T5 := Bs.flatMap fun b => timesM b.2 b.1
def timesS (Bs : List Bk) : List T5 := Bs.flatMap fun b => sortT (timesM b.2 b.1)
theorem times_mem (Bs : List Bk) (t : T5) : t ∈ timesS Bs ↔ t ∈ timesA Bs := by
  unfold timesS timesA
  rw [List.mem_flatMap, List.mem_flatMap]
  refine ⟨fun ⟨b, hb, h⟩ => ⟨b, hb, (List.mergeSort_perm _ _).mem_iff.mp h⟩, fun ⟨b, hb, h⟩ => ⟨b, hb, (List.mergeSort_perm _ _).mem_iff.mpr h⟩⟩
def sd_times_of : SpD := fun ds G R _ => ∃ me B, ds = [bkD B, .int me] ∧ Ok B ∧ R (.rol ((sortT (timesM B me)).map T5.d)) G
def sd__law_times : SpD := fun ds G R _ => ∃ me B, ds = [bkD B, .int me] ∧ Ok B ∧ R (.rol ((timesM B me).map T5.d2)) G
def sd__law_book : SpD := fun ds G R _ => ∃ a l, ds = [.ref a] ∧ G a = some (.lst l) ∧ Draws l ∧ ∀ B l', Ok B → Draws l' → R (bkD B) (updD G a (.lst l'))
def okT (lo lg : Int) : Bool := Pl.btw (.int lo) 0 999 && Pl.btw (.int lg) 1 50
def sd_free (C : Addr) : SpD := fun ds G R EX => ∃ (Bs : List Bk) (lo lg : Int), ds = [.rol (Bs.map pbD), .int lo, .int lg] ∧ Bs.length ≤ 20 ∧ (∀ b ∈ Bs, Ok b.2) ∧ (okT lo lg = true → R (.int (freeM (timesS Bs) lo lg)) G) ∧ (okT lo lg = false → EX (.ref C) none G)
end K16
/-! ### k16: readings -/
namespace K16
open PySem PySem.Spec PyProof.Rows L2 Cc K15
def b_times_of : DSt :=
  (sSeq (sAsg (dLst dNil) (gN 2))
  (sSeq (sFor (iSq (dVar 0)) (gT 7 (gsCons (gN 3) (gsCons (gN 4) (gsCons (gN 5) (gsCons (gN 6) (gsCons (gN 7) (gsCons (gN 8) (gsCons (gN 9) gsNil)))))))) (sSeq (sAsg (dLcF (iSq (dVar 9)) (gT 3 (gsNames [11, 12, 10])) (dTest (dOp dEq (dVar 11) (dVar 1))) (dVar 10) [11, 12, 10]) (gN 10))
  (sFor (iSq (dVar 8)) (gT 3 (gsCons (gN 13) (gsCons (gN 14) (gsCons (gN 15) gsNil)))) (sSeq (sAsg (dAndV (dOp dNe (dVar 10) (dLstF dNil)) (dOp dIn (dOp dIx (dOp dIx (dVar 10) (dC (.int 0))) (dVar 13)) (dC (.tup [(.str "no"), (.str "passed")])))) (gN 16))
  (sIf (dAnd (dTest (dOp dNotN (dVar 14) (dC .non))) (dNot (dTest (dVar 16)))) (sDrop (dBM "list" mAppend (dVar 2) (dCons (dTup (dCons (dVar 14) (dCons (dOp dAddF (dVar 14) (dVar 7)) (dCons (dVar 3) (dCons (dVar 4) (dCons (dVar 13) dNil)))))) dNil))) sNext)))))
  (sFz 2 (sRet (dCB dSortedF (dCons (dVar 2) dNil))))))
abbrev N_times_of : List Str := ["book", "me", "found", "host", "number", "version", "note", "long", "rows", "guests", "words", "hand", "by", "k", "begin", "often", "is_off"]
def b_free (C_BadPlan : Addr) : DSt :=
  (sSeq (sIf (dOr (dNot (dTest (dCall Pl.sd_is_between (dCons (dVar 1) (dCons (dC (.int 0)) (dCons (dC (.int 999)) dNil)))))) (dNot (dTest (dCall Pl.sd_is_between (dCons (dVar 2) (dCons (dC (.int 1)) (dCons (dC (.int 50)) dNil))))))) (sRaise C_BadPlan) sNext)
  (sSeq (sAsg (dLst dNil) (gN 3))
  (sSeq (sFor (iSq (dVar 0)) (gT 2 (gsCons (gN 4) (gsCons (gN 5) gsNil))) (sDrop (dBM "list" mExtendF (dVar 3) (dCons (dCall sd_times_of (dCons (dVar 5) (dCons (dVar 4) dNil))) dNil))))
  (sSeq (sAsg (dVar 1) (gN 6))
  (sSeq (sFz 3 (sFor (iSq (dCB dSortedF (dCons (dVar 3) dNil))) (gN 7) (sIf (dAnd (dTest (dOp dLt (dOp dIx (dVar 7) (dC (.int 0))) (dOp dAddF (dVar 6) (dVar 2)))) (dTest (dOp dGt (dOp dIx (dVar 7) (dC (.int 1))) (dVar 6)))) (sAsg (dOp dIx (dVar 7) (dC (.int 1))) (gN 6)) sNext)))
  (sRet (dVar 6)))))))
abbrev N_free : List Str := ["books", "low", "long", "times", "me", "book", "here", "time"]
def b__law_book : DSt :=
  (sSeq (sAsg (dLst dNil) (gN 1))
  (sSeq (sFor (iRange1 (dCall sd__law_off (dCons (dVar 0) (dCons (dOp dIx (dLstF (dCons (dC (.int 9)) (dCons (dC (.int 9)) (dCons (dC (.int 21)) dNil)))) (dCall sd__law_off (dCons (dVar 0) (dCons (dC (.int 3)) dNil)))) dNil)))) (gN 2) (sSeq (sAsg (dCall sd__law_off (dCons (dVar 0) (dCons (dC (.int 4)) dNil))) (gN 3))
  (sSeq (sAsg (dOp dAddF (dC (.int 1)) (dCall sd__law_off (dCons (dVar 0) (dCons (dC (.int 5)) dNil)))) (gN 4))
  (sSeq (sAsg (dLst dNil) (gN 5))
  (sSeq (sFor (iRange1 (dVar 4)) (gN 6) (sSeq (sAsg (dOp dIx (dLstF (dCons (dCall sd__law_off (dCons (dVar 0) (dCons (dC (.int 30)) dNil))) (dCons (dCall sd__law_off (dCons (dVar 0) (dCons (dC (.int 30)) dNil))) (dCons (dC .non) (dCons (dCall sd__law_off (dCons (dVar 0) (dCons (dC (.int 1000)) dNil))) dNil))))) (dCall sd__law_off (dCons (dVar 0) (dCons (dC (.int 4)) dNil)))) (gN 7))
  (sDrop (dBM "list" mAppend (dVar 5) (dCons (dTup (dCons (dVar 6) (dCons (dVar 7) (dCons (dCall sd__law_off (dCons (dVar 0) (dCons (dC (.int 3)) dNil))) dNil)))) dNil)))))
  (sSeq (sAsg (dLst dNil) (gN 8))
  (sSeq (sFor (iSq (dLcF (iRange1 (dC (.int 4))) (gN 10) (dAnd (dTest (dOp dNe (dVar 10) (dVar 3))) (dTest (dOp dEq (dCall sd__law_off (dCons (dVar 0) (dCons (dC (.int 2)) dNil))) (dC (.int 0))))) (dVar 10) [10])) (gN 9) (sSeq (sAsg (dLcF (iRange1 (dVar 4)) (gN 6) dYes (dOp dIx (dLstF (dCons (dC (.str "asked")) (dCons (dC (.str "yes")) (dCons (dC (.str "no")) (dCons (dC (.str "maybe")) dNil))))) (dCall sd__law_off (dCons (dVar 0) (dCons (dC (.int 4)) dNil)))) [6]) (gN 11))
  (sSeq (sIf (dTest (dOp dEq (dCall sd__law_off (dCons (dVar 0) (dCons (dC (.int 5)) dNil))) (dC (.int 0)))) (sAsg (dOp dMulF (dLstF (dCons (dC (.str "passed")) dNil)) (dVar 4)) (gN 11)) sNext)
  (sDrop (dBM "list" mAppend (dVar 8) (dCons (dTup (dCons (dVar 9) (dCons (dOp dIx (dLstF (dCons (dC .non) (dCons (dVar 3) dNil))) (dCB dIntC (dCons (dOp dEq (dCall sd__law_off (dCons (dVar 0) (dCons (dC (.int 9)) dNil))) (dC (.int 0))) dNil))) (dCons (dVar 11) dNil)))) dNil))))))
  (sFz 5 (sFz 8 (sDrop (dBM "list" mAppend (dVar 1) (dCons (dTup (dCons (dVar 3) (dCons (dVar 2) (dCons (dOp dAddF (dC (.int 1)) (dCall sd__law_off (dCons (dVar 0) (dCons (dC (.int 3)) dNil)))) (dCons (dC (.str "")) (dCons (dOp dAddF (dC (.int 1)) (dCall sd__law_off (dCons (dVar 0) (dCons (dOp dIx (dLstF (dCons (dC (.int 8)) (dCons (dC (.int 50)) dNil))) (dCall sd__law_off (dCons (dVar 0) (dCons (dC (.int 2)) dNil)))) dNil)))) (dCons (dVar 5) (dCons (dVar 8) dNil)))))))) dNil))))))))))))
  (sFz 1 (sRet (dSortGF encII kII (dVar 1))))))
abbrev N__law_book : List Str := ["_law_d", "_law_found", "_law_number", "_law_host", "_law_many", "_law_moments", "_law_k", "_law_begin", "_law_guests", "_law_hand", "_law_one", "_law_words"]
def b__law_times : DSt :=
  (sSeq (sAsg (dLst dNil) (gN 2))
  (sSeq (sFor (iSq (dVar 0)) (gT 7 (gsCons (gN 3) (gsCons (gN 4) (gsCons (gN 5) (gsCons (gN 6) (gsCons (gN 7) (gsCons (gN 8) (gsCons (gN 9) gsNil)))))))) (sFor (iSq (dVar 8)) (gT 3 (gsCons (gN 10) (gsCons (gN 11) (gsCons (gN 12) gsNil)))) (sSeq (sAsg (dLcF (iSq (dVar 9)) (gT 3 (gsNames [14, 15, 13])) (dTest (dOp dEq (dVar 14) (dVar 1))) (dOp dIx (dVar 13) (dVar 10)) [14, 15, 13]) (gN 13))
  (sIf (dAnd (dTest (dOp dNotN (dVar 11) (dC .non))) (dTest (dOp (dInT true) (dVar 13) (dTup (dCons (dLstF (dCons (dC (.str "no")) dNil)) (dCons (dLstF (dCons (dC (.str "passed")) dNil)) dNil)))))) (sDrop (dBM "list" mAppend (dVar 2) (dCons (dTup (dCons (dVar 11) (dCons (dOp dAddF (dVar 11) (dVar 7)) (dCons (dTup (dCons (dVar 3) (dCons (dVar 4) (dCons (dVar 10) dNil)))) dNil)))) dNil))) sNext))))
  (sFz 2 (sRet (dVar 2)))))
abbrev N__law_times : List Str := ["_law_book_here", "_law_me", "_law_found", "_law_host", "_law_number", "_law_version", "_law_note", "_law_long", "_law_moments", "_law_guests", "_law_k", "_law_begin", "_law_often", "_law_words", "_law_hand", "_law_by"]
def b_law (C_BadPlan : Addr) : DSt :=
  (sSeq (sAsg (dCall sd__law_dice (dCons (dVar 0) (dCons (dC (.int 0)) dNil))) (gN 1))
  (sSeq (sFor (iRange1 (dC (.int 4))) (gN 2) (sSeq (sAsg (dLcF (iRange1 (dCall sd__law_off (dCons (dVar 1) (dCons (dOp dIx (dLstF (dCons (dC (.int 5)) (dCons (dC (.int 9)) dNil))) (dCall sd__law_off (dCons (dVar 1) (dCons (dC (.int 2)) dNil)))) dNil)))) (gN 4) dYes (dTup (dCons (dCall sd__law_off (dCons (dVar 1) (dCons (dC (.int 4)) dNil))) (dCons (dCall sd__law_book (dCons (dVar 1) dNil)) dNil))) [4]) (gN 3))
  (sSeq (sAsg (dTup (dCons (dCall sd__law_off (dCons (dVar 1) (dCons (dOp dIx (dLstF (dCons (dC (.int 40)) (dCons (dC (.int 1000)) dNil))) (dCall sd__law_off (dCons (dVar 1) (dCons (dC (.int 2)) dNil)))) dNil))) (dCons (dOp dAddF (dC (.int 1)) (dCall sd__law_off (dCons (dVar 1) (dCons (dOp dIx (dLstF (dCons (dC (.int 9)) (dCons (dC (.int 50)) dNil))) (dCall sd__law_off (dCons (dVar 1) (dCons (dC (.int 2)) dNil)))) dNil)))) dNil))) (gT 2 (gsCons (gN 5) (gsCons (gN 6) gsNil))))
  (sSeq (sAsg (dLstF dNil) (gN 7))
  (sSeq (sFor (iSq (dVar 3)) (gT 2 (gsCons (gN 8) (gsCons (gN 9) gsNil))) (sAsg (dOp dAddF (dVar 7) (dCall sd__law_times (dCons (dVar 9) (dCons (dVar 8) dNil)))) (gN 7)))
  (sSeq (sAsg (dVar 5) (gN 10))
  (sSeq (sWhile (dTest (dOp dNe (dLcF (iSq (dVar 7)) (gN 11) (dAnd (dTest (dOp dLt (dOp dIx (dVar 11) (dC (.int 0))) (dOp dAddF (dVar 10) (dVar 6)))) (dTest (dOp dLt (dVar 10) (dOp dIx (dVar 11) (dC (.int 1)))))) (dVar 11) [11]) (dLstF dNil))) (sAsg (dOp dAddF (dVar 10) (dC (.int 1))) (gN 10)))
  (sSeq (sAsg (dLcF (iSq (dVar 3)) (gT 2 (gsNames [8, 9])) dYes (dTup (dCons (dVar 8) (dCons (dCB dListF (dCons (dVar 9) dNil)) dNil))) [8, 9]) (gN 12))
  (sSeq (sIf (dOr (dNot (dTest (dCall (sd__law_alike 6) (dCons (dCall (sd_free C_BadPlan) (dCons (dVar 3) (dCons (dVar 5) (dCons (dVar 6) dNil)))) (dCons (dVar 10) dNil))))) (dTest (dOp dNe (dVar 3) (dVar 12)))) (sRet (dC (.bl false))) sNext)
  (sSeq (sAsg (dCB dMax2 (dCons (dC (.int 0)) (dCons (dOp dSub (dCall sd__law_off (dCons (dVar 1) (dCons (dOp dPow (dC (.int 10)) (dC (.int 6))) dNil))) (dC (.int 500000))) dNil))) (gN 13))
  (sSeq (sAsg (dOp dIx (dLstF (dCons (dTup (dCons (dOp dSub (dUn dNeg (dC (.int 1))) (dVar 13)) (dCons (dC (.int 1)) dNil))) (dCons (dTup (dCons (dOp dAddF (dC (.int 1000)) (dVar 13)) (dCons (dC (.int 1)) dNil))) (dCons (dTup (dCons (dC (.int 0)) (dCons (dC (.int 0)) dNil))) (dCons (dTup (dCons (dC (.int 0)) (dCons (dOp dAddF (dC (.int 51)) (dVar 13)) dNil))) dNil))))) (dCall sd__law_off (dCons (dVar 1) (dCons (dC (.int 4)) dNil)))) (gN 14))
  (sIf (dNot (dTest (dRefuse (dCall (sd_free C_BadPlan) (dCons (dVar 3) (dCons (dOp dIx (dVar 14) (dC (.int 0))) (dCons (dOp dIx (dVar 14) (dC (.int 1))) dNil)))) C_BadPlan))) (sRet (dC (.bl false))) sNext))))))))))))
  (sRet (dC (.bl true)))))
abbrev N_law : List Str := ["_law_script", "_law_d", "_law_turn", "_law_books", "_law_k", "_law_low", "_law_long", "_law_times_here", "_law_me", "_law_book_here", "_law_due", "_law_time", "_law_kept", "_law_far", "_law_odd"]
end K16
/-! ### k16: the defs by their readings -/
namespace K16
open PySem PySem.Spec PyProof.Rows L2 Cc K15
open PySem.W (EachIs AllAlike Sortable dataLe)
local macro_rules | `(tactic| walk_at "rd") => `(tactic| try simp only [sSeq, sIf, sAsg, sRet, sRetN, sDrop, sNext, gN, gT, gsCons, gsNil, gsNames, wipeD, D.tl, dTest, dAnd, dOr, dNot, dAndV, dOrV, dNotV, dIf, dOp, dUn, dVar, dC, dCons, dNil, dCB, dCall, dTup, dLst, dLstF, dYes, blD_bl, dEq_int, dNe_int, dEq_bl, dNe_bl, dEq_str, dChain, vadd_int, vadd_rol, vadd_tup, vmul_int, vsub_int, vlt_int, vle_int, vgt_int, vge_int, vmax_int, vmin_int, vneg_int, vlen_tup, vlen_rol, vtup_rol, vtup_tup, vlist_rol, vlist_tup, vix_tup, vix_rol, vat_0, vat_1, vat_2, vat_3, vat_4, vat_5, vat_6, vsl_tup, vsl_rol, visi_non_bool, visi_non_int, visi_non_str, visi_non_tuple, visi_non_list, visi_bl_bool, visi_bl_int, visi_bl_str, visi_bl_tuple, visi_bl_list, visi_int_bool, visi_int_int, visi_int_str, visi_int_tuple, visi_int_list, visi_str_bool, visi_str_int, visi_str_str, visi_str_tuple, visi_str_list, visi_tup_bool, visi_tup_int, visi_tup_str, visi_tup_tuple, visi_tup_list, visi_key_bool, visi_key_int, visi_key_str, visi_key_tuple, visi_key_list, visi_rol_bool, visi_rol_int, visi_rol_str, visi_rol_tuple, visi_rol_list, dBM, vtyL, vapp, vlen_upd, vix_upd, vsz_0, vsz_1, vsz_2, vsz_3, vsz_4, vsz_5, vsz_6, vsz_7, vsz_8, vsz_9, dIsN, dNotN, D.isN, List.getElem?_cons_zero, List.getElem?_cons_succ, List.set_cons_zero, List.set_cons_succ, List.length_cons, List.length_nil, decide_eq_true_eq, if_true, if_false, Bool.false_eq_true, ite_true, ite_false, true_and, and_true, Bool.not_true, Bool.not_false])
/-- words of a hand -/
def ofHand (m : Me) (me : Int) : List Gu := m.gus.filter fun g => decide (g.hand = me)
theorem fm_hand (me : Int) : ∀ gs : List Gu, (gs.filterMap fun g : Gu => if g.hand = me then some (D.rol (g.words.map D.str)) else none) = (gs.filter fun g => decide (g.hand = me)).map fun g => D.rol (g.words.map D.str)
  | [] => rfl
  | g :: gs => by
    rw [List.filterMap_cons, List.filter_cons, fm_hand me gs]
    by_cases h : g.hand = me
    · simp [h]
    · simp [h]
def b_off : DE := dAndV (dOp dNe (dVar 10) (dLstF dNil)) (dOp dIn (dOp dIx (dOp dIx (dVar 10) (dC (.int 0))) (dVar 13)) (dC (.tup [(.str "no"), (.str "passed")])))
theorem b_off_eq : dAndV (dOp dNe (dVar 10) (dLstF dNil)) (dOp dIn (dOp dIx (dOp dIx (dVar 10) (dC (.int 0))) (dVar 13)) (dC (.tup [(.str "no"), (.str "passed")]))) = b_off := rfl
theorem off_ok {G : DH} {me : Int} {m : Me} {k : Nat} {δ : DS} {R : DK} {EX : DX} (hm : m.Ok) (h10 : δ[10]? = some (some (.rol ((ofHand m me).map fun g => D.rol (g.words.map D.str))))) (h13 : δ[13]? = some (some (.int (k : Int)))) (hk : ∀ g ∈ m.gus, k < g.words.length) (q : R (.bl (off m k me)) G) : b_off δ G R EX := by
  have hone := hm.one me
  unfold b_off
  simp only [dAndV, dOp, dVar, h10, h13]
  walk_at "rd"
  refine vne_nil (ts := (ofHand m me).map fun g => .list (g.words.map .str)) (rdd_map fun g _ => .rol (rdd_map fun x _ => .str x)) ?_ ?_
  · refine shaped_by ?_ ?_
    · rw [PyData.canLay0]
      refine lay_map fun g hg => ?_
      rw [PyData.canLay0]
      exact lay_map fun x hx => (hm.gus g (List.mem_filter.mp hg).1).txt x hx
    · rw [PyData.depth]
      have : PyData.depthAll ((ofHand m me).map fun g => PyData.list (g.words.map .str)) ≤ 1 := dep_map fun g hg => by
        rw [PyData.depth]
        have : PyData.depthAll (g.words.map .str) ≤ 0 := dep_map fun x _ => by simp [PyData.depth]
        omega
      omega
  · unfold off at q
    have hof : ofHand m me = m.gus.filter fun g => decide (g.hand = me) := rfl
    rw [← hof] at q hone
    cases hf : ofHand m me with
    | nil =>
      rw [hf] at q
      simp only [List.map_nil, List.isEmpty_nil]
      walk_at "rd"
      exact q
    | cons g gs =>
      rw [hf] at q
      have hgm : g ∈ m.gus := (List.mem_filter.mp (show g ∈ ofHand m me from by rw [hf]; exact List.mem_cons_self)).1
      have hkl := hk g hgm
      simp only [List.map_cons, List.isEmpty_cons]
      walk_at "rd"
      have e1 : L2.atI (g.words.map D.str) (k : Int) = some (D.str g.words[k]) := Cc.atI_nat (by rw [List.getElem?_map, List.getElem?_eq_getElem hkl]; rfl)
      rw [e1]
      dsimp only at q ⊢
      rw [List.getElem?_eq_getElem hkl] at q
      have e2 : inOf G (.str g.words[k]) (.tup [.str "no", .str "passed"]) = some (decide (g.words[k] = "no") || decide (g.words[k] = "passed")) := by
        simp only [inOf, seqOf, D.tl, D.flat, List.all_cons, List.all_nil, Bool.and_self, if_true, inF, List.any_cons, List.any_nil, Bool.or_false, eqF]
        have e3 : ∀ z : Str, (z == g.words[k]) = decide (g.words[k] = z) := fun z => by
          rw [Bool.eq_iff_iff, beq_iff_eq, decide_eq_true_eq]
          exact eq_comm
        rw [e3, e3]
      simp only [dIn, e2]
      exact q
theorem timesM_snoc {B1 : List Me} {m : Me} {me : Int} : timesM (B1 ++ [m]) me = timesM B1 me ++ m.mos.filterMap (mT m me) := by
  unfold timesM
  rw [List.flatMap_append, List.flatMap_cons, List.flatMap_nil, List.append_nil]
theorem timesM_le {B1 B : List Me} (h : Ok B) (hs : ∃ B2, B1 ++ B2 = B) {me : Int} : (timesM B1 me).length ≤ 300 := by
  obtain ⟨B2, e⟩ := hs
  exact times_len ⟨fun m hm => h.me m (by rw [← e]; exact List.mem_append_left _ hm), by have := h.few; have h2 := congrArg List.length e; rw [List.length_append] at h2; omega⟩
theorem rdd_t5 {G : DH} (t : T5) : Rdd G t.d t.p := .tup rfl (.cons (.int _) (.cons (.int _) (.cons (.int _) (.cons (.int _) (.cons (.int _) .nil)))))
theorem t5_alike (x y : T5) : PySem.W.alike x.p y.p = true := by simp [T5.p, PySem.W.alike, PySem.W.alikeAll]
theorem t5_dep (x : T5) : x.p.depth ≤ 1 := by simp [T5.p, PyData.depth, PyData.depthAll]
/-- sorted(a list of times) -/
theorem sorted_t5 {l : List T5} {G : DH} {R : DK} (hl : l.length ≤ 100000) (q : R (.rol ((sortT l).map T5.d)) G) : dSortedF [.rol (l.map T5.d)] G R := by
  refine ⟨l.map T5.d, l.map T5.p, rfl, rdd_map fun x _ => rdd_t5 x, AllAlike.of fun x y => t5_alike x y, Sortable.tuples fun t => ⟨_, _, rfl⟩, fun t ht => ?_, by rw [List.length_map]; exact sz_small hl, ?_⟩
  · obtain ⟨x, _, rfl⟩ := List.mem_map.mp ht
    exact Nat.le_trans (t5_dep x) (by omega)
  · rw [sortD_map]
    exact q
theorem pure_times_of (ds : List D) (G : DH) (R : DK) (EX : DX) (h : sd_times_of ds G R EX) : b_times_of (endsD (frg R) EX) (startD N_times_of ds) G := by
  obtain ⟨me, B, rfl, ok, q⟩ := h
  have q := frg_of q
  show b_times_of (endsD (frg R) EX) [some (bkD B), some (.int me), none, none, none, none, none, none, none, none, none, none, none, none, none, none, none] G
  unfold b_times_of bkD
  rw [b_off_eq]
  walk_at "rd"
  intro f hf
  simp only [sFor, iSq, dVar]
  walk_at "rd"
  refine goFor_map (f := meD) (fun xs δ G' => (∃ o3 o4 o5 o6 o7 o8 o9 o10 o11 o12 o13 o14 o15 o16 : Option D, δ = [some (.rol (B.map meD)), some (.int me), some (.ref f), o3, o4, o5, o6, o7, o8, o9, o10, o11, o12, o13, o14, o15, o16]) ∧ ∃ pre, pre ++ xs = B ∧ G' = updD G f (.lst ((timesM pre me).map T5.d)))
    (fun _ _ _ _ => trivial) (fun δ G' ⟨⟨o3, o4, o5, o6, o7, o8, o9, o10, o11, o12, o13, o14, o15, o16, e⟩, pre, ep, eG⟩ => ?_) (fun m xs δ G' N ⟨⟨o3, o4, o5, o6, o7, o8, o9, o10, o11, o12, o13, o14, o15, o16, e⟩, pre, ep, eG⟩ hN => ?_) _ _ _ ⟨⟨_, _, _, _, _, _, _, _, _, _, _, _, _, _, rfl⟩, [], rfl, rfl⟩
  · subst e eG
    rw [List.append_nil] at ep
    subst ep
    dsimp only
    refine sFz_lst rfl updD_same ?_
    rw [delD_updD hf]
    walk_at "rd"
    exact sorted_t5 (by have := times_len ok (me := me); omega) q
  · subst e eG
    have hm : m ∈ B := by rw [← ep]; simp
    have okm := ok.me m hm
    have few := timesM_le ok ⟨m :: xs, ep⟩ (me := me)
    have fewM := okm.fewM
    unfold meD
    walk_at "rd"
    simp only [dLcF, iSq, dVar]
    walk_at "rd"
    refine goLcF_map (f := guD) (fun g : Gu => if g.hand = me then some (D.rol (g.words.map D.str)) else none) trivial (fun g C1 C2 hg => ?_) m.gus [] (by have := okm.fewG; simp; exact sz_small (by omega)) ?_
    · unfold guD
      walk_at "rd"
      by_cases h : g.hand = me
      · simp only [h, if_true] at hg ⊢
        exact hg
      · simp only [h, if_false] at hg ⊢
        exact hg
    · rw [fm_hand, List.nil_append]
      refine goFor_map (f := Mo.d) (fun ys δ G' => (∃ o13 o14 o15 o16 : Option D, δ = [some (.rol (B.map meD)), some (.int me), some (.ref f), some (.int m.h), some (.int m.n), some (.int m.v), some (.str ""), some (.int m.long), some (.rol (m.mos.map Mo.d)), some (.rol (m.gus.map guD)), some (.rol ((ofHand m me).map fun g => D.rol (g.words.map D.str))), o11, o12, o13, o14, o15, o16]) ∧ ∃ pm, pm ++ ys = m.mos ∧ G' = updD G f (.lst ((timesM pre me ++ pm.filterMap (mT m me)).map T5.d)))
        (fun _ _ _ _ => trivial) (fun δ G' ⟨⟨o13, o14, o15, o16, e⟩, pm, em, eG⟩ => ?_) (fun mo ys δ G' N' ⟨⟨o13, o14, o15, o16, e⟩, pm, em, eG⟩ hN' => ?_) _ _ _ ⟨⟨_, _, _, _, rfl⟩, [], rfl, by rw [List.filterMap_nil, List.append_nil]⟩
      · subst e eG
        rw [List.append_nil] at em
        subst em
        exact hN _ _ ⟨⟨_, _, _, _, _, _, _, _, _, _, _, _, _, _, rfl⟩, pre ++ [m], by rw [List.append_assoc]; exact ep, by rw [timesM_snoc]⟩
      · subst e eG
        have hmo : mo ∈ m.mos := by rw [← em]; simp
        unfold Mo.d
        walk_at "rd"
        refine off_ok (k := mo.k) okm rfl rfl (okm.ks mo hmo) ?_
        walk_at "rd"
        have hlen : ((timesM pre me ++ pm.filterMap (mT m me)).map T5.d).length < sizeLine := by
          have h1 := List.length_filterMap_le (mT m me) pm
          have h2 := congrArg List.length em
          rw [List.length_append] at h2
          rw [List.length_map, List.length_append, sizeLine_eq]
          omega
        have nx : ∀ o16 : Option D, N' [some (.rol (B.map meD)), some (.int me), some (.ref f), some (.int m.h), some (.int m.n), some (.int m.v), some (.str ""), some (.int m.long), some (.rol (m.mos.map Mo.d)), some (.rol (m.gus.map guD)), some (.rol ((ofHand m me).map fun g => D.rol (g.words.map D.str))), o11, o12, some (.int mo.k), some (oD mo.beg), some (.int mo.often), o16] (updD G f (.lst ((timesM pre me ++ (pm ++ [mo]).filterMap (mT m me)).map T5.d))) := fun o16 =>
          hN' _ _ ⟨⟨_, _, _, _, rfl⟩, pm ++ [mo], by rw [List.append_assoc]; exact em, rfl⟩
        rw [List.filterMap_append, List.filterMap_cons, List.filterMap_nil] at nx
        unfold mT at nx
        cases hb : mo.beg with
        | none =>
          rw [hb] at nx
          simp only [oD]
          walk_at "rd"
          simp only [List.append_nil] at nx
          exact nx _
        | some b =>
          rw [hb] at nx
          simp only [oD]
          walk_at "rd"
          cases ho : off m mo.k me with
          | true =>
            rw [ho] at nx
            simp only [if_true, List.append_nil] at nx
            exact nx _
          | false =>
            rw [ho] at nx
            walk_at "rd"
            refine ⟨hlen, ?_⟩
            have := nx (some (.bl false))
            simp only [Bool.false_eq_true, if_false] at this
            rw [← List.append_assoc, List.map_append] at this
            exact this
/-! the law's own times -/
def wsK (m : Me) (k : Nat) (me : Int) : List Str := (ofHand m me).filterMap fun g => g.words[k]?
theorem fm_words (m : Me) (k : Nat) (me : Int) (gs : List Gu) (hk : ∀ g ∈ gs, k < g.words.length) : (gs.filterMap fun g : Gu => if g.hand = me then (g.words[k]?).map D.str else none) = ((gs.filter fun g => decide (g.hand = me)).filterMap fun g => g.words[k]?).map D.str := by
  induction gs with
  | nil => rfl
  | cons g gs ih =>
    have ih := ih fun x hx => hk x (List.mem_cons_of_mem _ hx)
    rw [List.filterMap_cons, List.filter_cons, ih]
    by_cases h : g.hand = me
    · have hkl := hk g List.mem_cons_self
      rw [List.getElem?_eq_getElem hkl]
      simp [h, List.getElem?_eq_getElem hkl]
    · simp [h]
theorem eqv_one {z : Str} (l : List Str) : PyData.eqv (.list [.str z]) (.list (l.map .str)) = (match l with
  | [w] => decide (z = w)
  | _ => false) := by
  match l with
  | [] => simp [PyData.eqv, PyData.eqvAll]
  | [w] =>
    simp [PyData.eqv, PyData.eqvAll]
    try rfl
  | w :: w' :: ws => simp [PyData.eqv, PyData.eqvAll]
theorem off_eq {m : Me} (hm : m.Ok) {mo : Mo} (hmo : mo ∈ m.mos) (me : Int) : ([PyData.list [.str "no"], PyData.list [.str "passed"]].any fun z => PyData.eqv z (.list ((wsK m mo.k me).map .str))) = off m mo.k me := by
  rw [List.any_cons, List.any_cons, List.any_nil, Bool.or_false, eqv_one, eqv_one]
  have hone := hm.one me
  unfold off wsK ofHand
  cases hf : m.gus.filter fun g => decide (g.hand = me) with
  | nil => rfl
  | cons g gs =>
    rw [hf] at hone
    have hgs : gs = [] := by
      rw [List.length_cons] at hone
      exact List.eq_nil_of_length_eq_zero (by omega)
    subst hgs
    have hgm : g ∈ m.gus := (List.mem_filter.mp (show g ∈ m.gus.filter fun g => decide (g.hand = me) from by rw [hf]; exact List.mem_cons_self)).1
    have hkl := hm.ks mo hmo g hgm
    rw [List.filterMap_cons, List.getElem?_eq_getElem hkl, List.filterMap_nil]
    dsimp only
    have e1 : decide (("no" : Str) = g.words[mo.k]) = decide (g.words[mo.k] = "no") := decide_eq_decide.mpr ⟨Eq.symm, Eq.symm⟩
    have e2 : decide (("passed" : Str) = g.words[mo.k]) = decide (g.words[mo.k] = "passed") := decide_eq_decide.mpr ⟨Eq.symm, Eq.symm⟩
    rw [e1, e2, List.getElem?_eq_getElem hkl]
theorem pure_law_times (ds : List D) (G : DH) (R : DK) (EX : DX) (h : sd__law_times ds G R EX) : b__law_times (endsD (frg R) EX) (startD N__law_times ds) G := by
  obtain ⟨me, B, rfl, ok, q⟩ := h
  have q := frg_of q
  show b__law_times (endsD (frg R) EX) [some (bkD B), some (.int me), none, none, none, none, none, none, none, none, none, none, none, none, none, none] G
  unfold b__law_times bkD
  walk_at "rd"
  intro f hf
  simp only [sFor, iSq, dVar]
  walk_at "rd"
  refine goFor_map (f := meD) (fun xs δ G' => (∃ o3 o4 o5 o6 o7 o8 o9 o10 o11 o12 o13 o14 o15 : Option D, δ = [some (.rol (B.map meD)), some (.int me), some (.ref f), o3, o4, o5, o6, o7, o8, o9, o10, o11, o12, o13, o14, o15]) ∧ ∃ pre, pre ++ xs = B ∧ G' = updD G f (.lst ((timesM pre me).map T5.d2)))
    (fun _ _ _ _ => trivial) (fun δ G' ⟨⟨o3, o4, o5, o6, o7, o8, o9, o10, o11, o12, o13, o14, o15, e⟩, pre, ep, eG⟩ => ?_) (fun m xs δ G' N ⟨⟨o3, o4, o5, o6, o7, o8, o9, o10, o11, o12, o13, o14, o15, e⟩, pre, ep, eG⟩ hN => ?_) _ _ _ ⟨⟨_, _, _, _, _, _, _, _, _, _, _, _, _, rfl⟩, [], rfl, rfl⟩
  · subst e eG
    rw [List.append_nil] at ep
    subst ep
    dsimp only
    refine sFz_lst rfl updD_same ?_
    rw [delD_updD hf]
    walk_at "rd"
    exact q
  · subst e eG
    have hm : m ∈ B := by rw [← ep]; simp
    have okm := ok.me m hm
    have few := timesM_le ok ⟨m :: xs, ep⟩ (me := me)
    have fewM := okm.fewM
    unfold meD
    walk_at "rd"
    refine goFor_map (f := Mo.d) (fun ys δ G' => (∃ o10 o11 o12 o13 o14 o15 : Option D, δ = [some (.rol (B.map meD)), some (.int me), some (.ref f), some (.int m.h), some (.int m.n), some (.int m.v), some (.str ""), some (.int m.long), some (.rol (m.mos.map Mo.d)), some (.rol (m.gus.map guD)), o10, o11, o12, o13, o14, o15]) ∧ ∃ pm, pm ++ ys = m.mos ∧ G' = updD G f (.lst ((timesM pre me ++ pm.filterMap (mT m me)).map T5.d2)))
      (fun _ _ _ _ => trivial) (fun δ G' ⟨⟨o10, o11, o12, o13, o14, o15, e⟩, pm, em, eG⟩ => ?_) (fun mo ys δ G' N' ⟨⟨o10, o11, o12, o13, o14, o15, e⟩, pm, em, eG⟩ hN' => ?_) _ _ _ ⟨⟨_, _, _, _, _, _, rfl⟩, [], rfl, by rw [List.filterMap_nil, List.append_nil]⟩
    · subst e eG
      rw [List.append_nil] at em
      subst em
      exact hN _ _ ⟨⟨_, _, _, _, _, _, _, _, _, _, _, _, _, rfl⟩, pre ++ [m], by rw [List.append_assoc]; exact ep, by rw [timesM_snoc]⟩
    · subst e eG
      have hmo : mo ∈ m.mos := by rw [← em]; simp
      unfold Mo.d
      walk_at "rd"
      simp only [dLcF, iSq, dVar]
      walk_at "rd"
      refine goLcF_mem (f := guD) (fun g : Gu => if g.hand = me then (g.words[mo.k]?).map D.str else none) trivial m.gus [] (fun g hg C1 C2 hC => ?_) (by have := okm.fewG; simp; exact sz_small (by omega)) ?_
      · have hkl := okm.ks mo hmo g hg
        rw [List.getElem?_eq_getElem hkl] at hC
        unfold guD
        walk_at "rd"
        by_cases h : g.hand = me
        · simp only [h, if_true, Option.map_some] at hC ⊢
          have e1 : L2.atI (g.words.map D.str) (mo.k : Int) = some (D.str g.words[mo.k]) := Cc.atI_nat (by rw [List.getElem?_map, List.getElem?_eq_getElem hkl]; rfl)
          rw [e1]
          exact hC
        · simp only [h, if_false] at hC ⊢
          exact hC
      · rw [fm_words m mo.k me m.gus (okm.ks mo hmo), List.nil_append]
        have hws : ((m.gus.filter fun g => decide (g.hand = me)).filterMap fun g => g.words[mo.k]?) = wsK m mo.k me := rfl
        rw [hws]
        have hlen : ((timesM pre me ++ pm.filterMap (mT m me)).map T5.d2).length < sizeLine := by
          have h1 := List.length_filterMap_le (mT m me) pm
          have h2 := congrArg List.length em
          rw [List.length_append] at h2
          rw [List.length_map, List.length_append, sizeLine_eq]
          omega
        have nx : ∀ o14 o15 : Option D, N' [some (.rol (B.map meD)), some (.int me), some (.ref f), some (.int m.h), some (.int m.n), some (.int m.v), some (.str ""), some (.int m.long), some (.rol (m.mos.map Mo.d)), some (.rol (m.gus.map guD)), some (.int mo.k), some (oD mo.beg), some (.int mo.often), some (.rol ((wsK m mo.k me).map D.str)), o14, o15] (updD G f (.lst ((timesM pre me ++ (pm ++ [mo]).filterMap (mT m me)).map T5.d2))) := fun o14 o15 =>
          hN' _ _ ⟨⟨_, _, _, _, _, _, rfl⟩, pm ++ [mo], by rw [List.append_assoc]; exact em, rfl⟩
        rw [List.filterMap_append, List.filterMap_cons, List.filterMap_nil] at nx
        unfold mT at nx
        cases hb : mo.beg with
        | none =>
          rw [hb] at nx
          simp only [oD]
          walk_at "rd"
          simp only [List.append_nil] at nx
          exact nx _ _
        | some b =>
          rw [hb] at nx
          simp only [oD]
          walk_at "rd"
          refine ⟨.list ((wsK m mo.k me).map .str), [.list [.str "no"], .list [.str "passed"]], .rol (rdd_map fun x _ => .str x), .tup rfl (.cons (.rol (.cons (.str _) .nil)) (.cons (.rol (.cons (.str _) .nil)) .nil)), ?_, by decide +kernel, ?_⟩
          · refine shaped_by ?_ ?_
            · rw [PyData.canLay0]
              refine lay_map fun w hw => ?_
              obtain ⟨g, hg, e⟩ := List.mem_filterMap.mp hw
              exact (okm.gus g (List.mem_filter.mp hg).1).txt w (List.mem_of_getElem? e)
            · rw [PyData.depth]
              have : PyData.depthAll ((wsK m mo.k me).map .str) ≤ 0 := dep_map fun x _ => by simp [PyData.depth]
              omega
          · rw [off_eq okm hmo]
            walk_at "rd"
            cases ho : off m mo.k me with
            | true =>
              rw [ho] at nx
              simp only [if_true, List.append_nil] at nx
              exact nx _ _
            | false =>
              rw [ho] at nx
              have := nx o14 o15
              simp only [Bool.false_eq_true, if_false] at this
              rw [← List.append_assoc, List.map_append] at this
              simp only [Bool.xor_false, Bool.not_false, if_true]
              walk_at "rd"
              exact ⟨hlen, this⟩
end K16
/-! ### k16: free, the books -/
namespace K16
open PySem PySem.Spec PyProof.Rows L2 Cc K15
open PySem.W (EachIs AllAlike Sortable dataLe)
local macro_rules | `(tactic| walk_at "rd") => `(tactic| try simp only [sSeq, sIf, sAsg, sRet, sRetN, sDrop, sNext, gN, gT, gsCons, gsNil, gsNames, wipeD, D.tl, dTest, dAnd, dOr, dNot, dAndV, dOrV, dNotV, dIf, dOp, dUn, dVar, dC, dCons, dNil, dCB, dCall, dTup, dLst, dLstF, dYes, blD_bl, dEq_int, dNe_int, dEq_bl, dNe_bl, dEq_str, dChain, vadd_int, vadd_rol, vadd_tup, vmul_int, vsub_int, vlt_int, vle_int, vgt_int, vge_int, vmax_int, vmin_int, vneg_int, vlen_tup, vlen_rol, vtup_rol, vtup_tup, vlist_rol, vlist_tup, vix_tup, vix_rol, vat_0, vat_1, vat_2, vat_3, vat_4, vat_5, vat_6, vsl_tup, vsl_rol, visi_non_bool, visi_non_int, visi_non_str, visi_non_tuple, visi_non_list, visi_bl_bool, visi_bl_int, visi_bl_str, visi_bl_tuple, visi_bl_list, visi_int_bool, visi_int_int, visi_int_str, visi_int_tuple, visi_int_list, visi_str_bool, visi_str_int, visi_str_str, visi_str_tuple, visi_str_list, visi_tup_bool, visi_tup_int, visi_tup_str, visi_tup_tuple, visi_tup_list, visi_key_bool, visi_key_int, visi_key_str, visi_key_tuple, visi_key_list, visi_rol_bool, visi_rol_int, visi_rol_str, visi_rol_tuple, visi_rol_list, dBM, vtyL, vapp, vlen_upd, vix_upd, vsz_0, vsz_1, vsz_2, vsz_3, vsz_4, vsz_5, vsz_6, vsz_7, vsz_8, vsz_9, dIsN, dNotN, D.isN, List.getElem?_cons_zero, List.getElem?_cons_succ, List.set_cons_zero, List.set_cons_succ, List.length_cons, List.length_nil, decide_eq_true_eq, if_true, if_false, Bool.false_eq_true, ite_true, ite_false, true_and, and_true, Bool.not_true, Bool.not_false])
theorem timesS_snoc (a : List Bk) (b : Bk) : timesS (a ++ [b]) = timesS a ++ sortT (timesM b.2 b.1) := by
  unfold timesS
  rw [List.flatMap_append, List.flatMap_cons, List.flatMap_nil, List.append_nil]
theorem timesS_len : ∀ (a : List Bk), (∀ b ∈ a, Ok b.2) → (timesS a).length ≤ a.length * 300
  | [], _ => Nat.le_refl _
  | b :: bs, h => by
    have ih := timesS_len bs fun x hx => h x (List.mem_cons_of_mem _ hx)
    have h1 := times_len (h b List.mem_cons_self) (me := b.1)
    unfold timesS at ih ⊢
    rw [List.flatMap_cons, List.length_append, List.length_cons]
    unfold sortT at *
    rw [List.length_mergeSort]
    omega
theorem pure_free (C : Addr) (ds : List D) (G : DH) (R : DK) (EX : DX) (h : sd_free C ds G R EX) : b_free C (endsD (frg R) EX) (startD N_free ds) G := by
  obtain ⟨Bs, lo, lg, rfl, few, ok, q1, q2⟩ := h
  show b_free C (endsD (frg R) EX) [some (.rol (Bs.map pbD)), some (.int lo), some (.int lg), none, none, none, none, none] G
  unfold b_free
  walk_at "rd"
  refine ⟨.int lo, 0, 999, rfl, .int _, ?_⟩
  walk_at "rd"
  unfold okT at q1 q2
  cases h1 : Pl.btw (.int lo) 0 999 with
  | false =>
    rw [h1] at q2
    exact q2 rfl
  | true =>
    rw [h1] at q1 q2
    simp only [Bool.not_true, Bool.false_eq_true, if_false]
    refine ⟨.int lg, 1, 50, rfl, .int _, ?_⟩
    walk_at "rd"
    cases h2 : Pl.btw (.int lg) 1 50 with
    | false =>
      rw [h2] at q2
      exact q2 rfl
    | true =>
      rw [h2] at q1
      have q := q1 rfl
      walk_at "rd"
      intro f hf
      simp only [sFor, iSq, dVar]
      walk_at "rd"
      refine goFor_map (f := pbD) (fun xs δ G' => (∃ o4 o5 o6 o7 : Option D, δ = [some (.rol (Bs.map pbD)), some (.int lo), some (.int lg), some (.ref f), o4, o5, o6, o7]) ∧ ∃ pre, pre ++ xs = Bs ∧ G' = updD G f (.lst ((timesS pre).map T5.d)))
        (fun _ _ _ _ => trivial) (fun δ G' ⟨⟨o4, o5, o6, o7, e⟩, pre, ep, eG⟩ => ?_) (fun b xs δ G' N ⟨⟨o4, o5, o6, o7, e⟩, pre, ep, eG⟩ hN => ?_) _ _ _ ⟨⟨_, _, _, _, rfl⟩, [], rfl, rfl⟩
      · subst e eG
        rw [List.append_nil] at ep
        subst ep
        have hlen := timesS_len pre ok
        walk_at "rd"
        refine sFz_lst rfl updD_same ?_
        rw [delD_updD hf]
        simp only [sFor, iSq]
        walk_at "rd"
        refine sorted_t5 (l := timesS pre) (by omega) ?_
        dsimp only
        refine goFor_map (f := T5.d) (fun xs δ G' => (∃ (here : Int) (o7 : Option D), δ = [some (.rol (pre.map pbD)), some (.int lo), some (.int lg), some (.rol ((timesS pre).map T5.d)), o4, o5, some (.int here), o7] ∧ xs.foldl (step lg) here = freeM (timesS pre) lo lg) ∧ G' = G)
          (fun _ _ _ _ => trivial) (fun δ G' ⟨⟨here, o7, e, ee⟩, eG⟩ => ?_) (fun t xs δ G' N ⟨⟨here, o7, e, ee⟩, eG⟩ hN => ?_) _ _ _ ⟨⟨lo, o7, rfl, rfl⟩, rfl⟩
        · subst e eG
          rw [List.foldl_nil] at ee
          rw [← ee] at q
          walk_at "rd"
          exact frg_of q
        · subst e eG
          unfold T5.d
          walk_at "rd"
          rw [List.foldl_cons] at ee
          unfold step clash at ee
          by_cases c1 : t.b < here + lg
          · rw [if_pos c1]
            walk_at "rd"
            by_cases c2 : t.e > here
            · have c2' : here < t.e := c2
              rw [if_pos c2]
              rw [decide_eq_true c1, decide_eq_true c2'] at ee
              exact hN _ _ ⟨⟨t.e, _, rfl, ee⟩, rfl⟩
            · have c2' : ¬ here < t.e := c2
              rw [if_neg c2]
              rw [decide_eq_false c2', Bool.and_false, if_neg Bool.false_ne_true] at ee
              exact hN _ _ ⟨⟨here, _, rfl, ee⟩, rfl⟩
          · rw [if_neg c1]
            rw [decide_eq_false c1, Bool.false_and, if_neg Bool.false_ne_true] at ee
            exact hN _ _ ⟨⟨here, _, rfl, ee⟩, rfl⟩
      · subst e eG
        have hb : b ∈ Bs := by rw [← ep]; simp
        unfold pbD
        walk_at "rd"
        refine ⟨b.1, b.2, rfl, ok b hb, ?_⟩
        have hl1 := timesS_len pre fun x hx => ok x (by rw [← ep]; exact List.mem_append_left _ hx)
        have hl2 := times_len (ok b hb) (me := b.1)
        have hl3 := congrArg List.length ep
        rw [List.length_append] at hl3
        have hl4 : (sortT (timesM b.2 b.1)).length = (timesM b.2 b.1).length := by unfold sortT; rw [List.length_mergeSort]
        simp only [mExtendF]
        refine ⟨_, _, updD_same, rfl, by rw [List.length_map, List.length_map, hl4, sizeLine_eq]; omega, ?_⟩
        rw [updD_updD, ← List.map_append, ← timesS_snoc]
        exact hN _ _ ⟨⟨_, _, _, _, rfl⟩, pre ++ [b], by rw [List.append_assoc]; exact ep, rfl⟩
/-! the books that are drawn -/
def momS : DSt := (sFor (iRange1 (dVar 4)) (gN 6) (sSeq (sAsg (dOp dIx (dLstF (dCons (dCall sd__law_off (dCons (dVar 0) (dCons (dC (.int 30)) dNil))) (dCons (dCall sd__law_off (dCons (dVar 0) (dCons (dC (.int 30)) dNil))) (dCons (dC .non) (dCons (dCall sd__law_off (dCons (dVar 0) (dCons (dC (.int 1000)) dNil))) dNil))))) (dCall sd__law_off (dCons (dVar 0) (dCons (dC (.int 4)) dNil)))) (gN 7))
  (sDrop (dBM "list" mAppend (dVar 5) (dCons (dTup (dCons (dVar 6) (dCons (dVar 7) (dCons (dCall sd__law_off (dCons (dVar 0) (dCons (dC (.int 3)) dNil))) dNil)))) dNil)))))
theorem mom_ok {a p : Addr} {G0 : DH} {l : List D} {Dn : DEnds} {x1 x2 x3 o6 o7 o8 o9 o10 o11 : Option D} {c : Nat} (ne : p ≠ a) (dl : Draws l) (hc : c ≤ 5)
    (q : ∀ (mos : List Mo) l' o6 o7, mos.length = c → (∀ mo ∈ mos, mo.k < c) → Draws l' → Dn.nx [some (.ref a), x1, x2, x3, some (.int c), some (.ref p), o6, o7, o8, o9, o10, o11] (updD (updD G0 a (.lst l')) p (.lst (mos.map Mo.d)))) :
    momS Dn [some (.ref a), x1, x2, x3, some (.int c), some (.ref p), o6, o7, o8, o9, o10, o11] (updD (updD G0 a (.lst l)) p (.lst [])) := by
  unfold momS sFor iRange1
  walk_at "rd"
  refine ⟨⟨by omega, by omega⟩, ?_⟩
  rw [Int.toNat_natCast, rangeD_map]
  refine goFor_map (f := fun i : Nat => D.int (i : Int)) (fun xs δ G' => ∃ (mos : List Mo) (l : List D) (o6 o7 : Option D), δ = [some (.ref a), x1, x2, x3, some (.int c), some (.ref p), o6, o7, o8, o9, o10, o11] ∧ mos.length + xs.length = c ∧ (∀ x ∈ xs, x < c) ∧ (∀ mo ∈ mos, mo.k < c) ∧ Draws l ∧ G' = updD (updD G0 a (.lst l)) p (.lst (mos.map Mo.d)))
    (fun _ _ _ _ => trivial) (fun δ G' ⟨mos, l, o6, o7, e, hl, _, hk, dl, eG⟩ => ?_) (fun x xs δ G' N ⟨mos, l, o6, o7, e, hl, hx, hk, dl, eG⟩ hN => ?_) _ _ _ ⟨[], l, o6, o7, rfl, by simp, fun x hx => List.mem_range.mp hx, fun _ h => (by cases h), dl, rfl⟩
  · subst e eG
    exact q mos l o6 o7 (by simpa using hl) hk dl
  · subst e eG
    walk_at "rd"
    refine off_use2 ne dl (by decide) (by decide) fun r1 l _ _ dl => ?_
    refine off_use2 ne dl (by decide) (by decide) fun r2 l _ _ dl => ?_
    refine off_use2 ne dl (by decide) (by decide) fun r3 l _ _ dl => ?_
    refine off_use2 ne dl (by decide) (by decide) fun r l r0 r1 dl => ?_
    rw [List.length_cons] at hl
    have fin : ∀ b : Option Int, sd__law_off [.ref a, .int 3] (updD (updD G0 a (.lst l)) p (.lst (mos.map Mo.d))) (fun x_1 G1 => mAppend (.ref p) [.tup [.int x, oD b, x_1]] G1 (fun _ G2 => N [some (.ref a), x1, x2, x3, some (.int c), some (.ref p), some (.int x), some (oD b), o8, o9, o10, o11] G2)) Dn.ex := fun b => by
      refine off_use2 ne dl (by decide) (by decide) fun n l _ _ dl => ?_
      rw [vapp]
      refine ⟨by rw [List.length_map, sizeLine_eq]; omega, hN _ _ ⟨mos ++ [⟨x, b, n⟩], l, _, _, rfl, by rw [List.length_append]; simp; omega, fun y hy => hx y (List.mem_cons_of_mem _ hy), fun mo hm => ?_, dl, by rw [List.map_append]; rfl⟩⟩
      rcases List.mem_append.mp hm with hm | hm
      · exact hk mo hm
      · rw [List.mem_singleton.mp hm]
        exact hx x List.mem_cons_self
    refine menuD r0 (by simpa using r1) fun y hy => ?_
    simp only [List.mem_cons, List.not_mem_nil, or_false] at hy
    rcases hy with rfl | rfl | rfl | rfl
    · exact ⟨by rw [vtyL]; trivial, fin (some _)⟩
    · exact ⟨by rw [vtyL]; trivial, fin (some _)⟩
    · exact ⟨by rw [vtyL]; trivial, fin none⟩
    · exact ⟨by rw [vtyL]; trivial, fin (some _)⟩
def handsE : DE := (dLcF (iRange1 (dC (.int 4))) (gN 10) (dAnd (dTest (dOp dNe (dVar 10) (dVar 3))) (dTest (dOp dEq (dCall sd__law_off (dCons (dVar 0) (dCons (dC (.int 2)) dNil))) (dC (.int 0))))) (dVar 10) [10])
theorem hands_ok {a p : Addr} {G0 : DH} {l : List D} {R : DK} {EX : DX} {h : Int} {c : C} {x1 x2 x4 x5 x6 x7 x8 x9 x10 x11 : Option D} (ne : p ≠ a) (dl : Draws l)
    (q : ∀ (hs : List Int) l', hs.length ≤ 4 → hs.Pairwise (· < ·) → Draws l' → R (.rol (hs.map .int)) (updD (updD G0 a (.lst l')) p c)) :
    handsE [some (.ref a), x1, x2, some (.int h), x4, x5, x6, x7, x8, x9, x10, x11] (updD (updD G0 a (.lst l)) p c) R EX := by
  unfold handsE dLcF iRange1
  walk_at "rd"
  refine ⟨⟨by omega, by omega⟩, ?_⟩
  rw [rangeD_map]
  refine goLcF_inv (f := fun i : Nat => D.int (i : Int)) (fun xs acc G' => ∃ (hs : List Int) (l : List D), acc = hs.map D.int ∧ hs.length + xs.length ≤ 4 ∧ hs.Pairwise (· < ·) ∧ (∀ x ∈ hs, ∀ y ∈ xs, x < (y : Int)) ∧ xs.Pairwise (· < ·) ∧ Draws l ∧ G' = updD (updD G0 a (.lst l)) p c)
    (fun _ _ _ _ => trivial) (fun xs acc G' ⟨hs, l, e, hl, _⟩ => ?_) (fun acc G' ⟨hs, l, e, hl, hp, _, _, dl, eG⟩ => ?_) (fun x xs acc G' C1 C2 ⟨hs, l, e, hl, hp, hx, hxs, dl, eG⟩ h1 h2 => ?_) _ _ _ ⟨[], l, rfl, by decide, .nil, fun _ h => (by cases h), List.pairwise_lt_range, dl, rfl⟩
  · rw [e, List.length_map, sizeLine_eq]
    omega
  · subst e eG
    exact q hs l (by simpa using hl) hp dl
  · subst e eG
    obtain ⟨hx1, hx2⟩ := List.pairwise_cons.mp hxs
    rw [List.length_cons] at hl
    have no : ∀ l, Draws l → C2 (updD (updD G0 a (.lst l)) p c) := fun l dl => h2 _ ⟨hs, l, rfl, by omega, hp, fun y hy z hz => hx y hy z (List.mem_cons_of_mem _ hz), hx2, dl, rfl⟩
    have yes : ∀ l, Draws l → C1 (.int x) (updD (updD G0 a (.lst l)) p c) := fun l dl => h1 _ _ ⟨hs ++ [(x : Int)], l, by rw [List.map_append]; rfl, by rw [List.length_append]; simp; omega, by
      rw [List.pairwise_append]
      exact ⟨hp, List.pairwise_singleton _ _, fun y hy z hz => by rw [List.mem_singleton.mp hz]; exact hx y hy x List.mem_cons_self⟩, fun y hy z hz => by
      rcases List.mem_append.mp hy with hy | hy
      · exact hx y hy z (List.mem_cons_of_mem _ hz)
      · rw [List.mem_singleton.mp hy]
        have := hx1 z hz
        omega, hx2, dl, rfl⟩
    walk_at "rd"
    by_cases hh : (x : Int) = h
    · simp only [hh, decide_true, Bool.not_true, Bool.false_eq_true, if_false]
      exact no l dl
    · simp only [hh, decide_false, Bool.not_false, if_true]
      refine off_use2 ne dl (by decide) (by decide) fun r l r0 r1 dl => ?_
      walk_at "rd"
      by_cases hr : r = 0
      · rw [if_pos hr]
        exact yes l dl
      · rw [if_neg hr]
        exact no l dl
def WordOk (w : Str) : Prop := PyData.canLay0 (.str w) = true
def wordsE : DE := (dLcF (iRange1 (dVar 4)) (gN 6) dYes (dOp dIx (dLstF (dCons (dC (.str "asked")) (dCons (dC (.str "yes")) (dCons (dC (.str "no")) (dCons (dC (.str "maybe")) dNil))))) (dCall sd__law_off (dCons (dVar 0) (dCons (dC (.int 4)) dNil)))) [6])
theorem words_ok {a p : Addr} {G0 : DH} {l : List D} {R : DK} {EX : DX} {n : Nat} {c : C} {x1 x2 x3 x5 x6 x7 x8 x9 x10 x11 : Option D} (ne : p ≠ a) (dl : Draws l) (hn : n ≤ 5)
    (q : ∀ (ws : List Str) l', ws.length = n → (∀ w ∈ ws, WordOk w) → Draws l' → R (.rol (ws.map .str)) (updD (updD G0 a (.lst l')) p c)) :
    wordsE [some (.ref a), x1, x2, x3, some (.int n), x5, x6, x7, x8, x9, x10, x11] (updD (updD G0 a (.lst l)) p c) R EX := by
  unfold wordsE dLcF iRange1
  walk_at "rd"
  refine ⟨⟨by omega, by omega⟩, ?_⟩
  rw [Int.toNat_natCast, rangeD_map]
  refine goLcF_inv (f := fun i : Nat => D.int (i : Int)) (fun xs acc G' => ∃ (ws : List Str) (l : List D), acc = ws.map D.str ∧ ws.length + xs.length = n ∧ (∀ w ∈ ws, WordOk w) ∧ Draws l ∧ G' = updD (updD G0 a (.lst l)) p c)
    (fun _ _ _ _ => trivial) (fun xs acc G' ⟨hs, l, e, hl, _⟩ => ?_) (fun acc G' ⟨hs, l, e, hl, hp, dl, eG⟩ => ?_) (fun x xs acc G' C1 C2 ⟨hs, l, e, hl, hp, dl, eG⟩ h1 h2 => ?_) _ _ _ ⟨[], l, rfl, by simp, fun _ h => (by cases h), dl, rfl⟩
  · rw [e, List.length_map, sizeLine_eq]
    omega
  · subst e eG
    exact q hs l (by simpa using hl) hp dl
  · subst e eG
    rw [List.length_cons] at hl
    walk_at "rd"
    refine off_use2 ne dl (by decide) (by decide) fun r l r0 r1 dl => ?_
    have fin : ∀ w : Str, WordOk w → C1 (.str w) (updD (updD G0 a (.lst l)) p c) := fun w hw => h1 _ _ ⟨hs ++ [w], l, by rw [List.map_append]; rfl, by rw [List.length_append]; simp; omega, fun y hy => by
      rcases List.mem_append.mp hy with hy | hy
      · exact hp y hy
      · rw [List.mem_singleton.mp hy]; exact hw, dl, rfl⟩
    refine menuD r0 (by simpa using r1) fun y hy => ?_
    simp only [List.mem_cons, List.not_mem_nil, or_false] at hy
    rcases hy with rfl | rfl | rfl | rfl
    · exact fin _ (by unfold WordOk; decide +kernel)
    · exact fin _ (by unfold WordOk; decide +kernel)
    · exact fin _ (by unfold WordOk; decide +kernel)
    · exact fin _ (by unfold WordOk; decide +kernel)
end K16
/-! ### k16: the drawn books -/
namespace K16
open PySem PySem.Spec PyProof.Rows L2 Cc K15
open PySem.W (EachIs AllAlike Sortable dataLe)
local macro_rules | `(tactic| walk_at "rd") => `(tactic| try simp only [sSeq, sIf, sAsg, sRet, sRetN, sDrop, sNext, gN, gT, gsCons, gsNil, gsNames, wipeD, D.tl, dTest, dAnd, dOr, dNot, dAndV, dOrV, dNotV, dIf, dOp, dUn, dVar, dC, dCons, dNil, dCB, dCall, dTup, dLst, dLstF, dYes, blD_bl, dEq_int, dNe_int, dEq_bl, dNe_bl, dEq_str, dChain, vadd_int, vadd_rol, vadd_tup, vmul_int, vsub_int, vlt_int, vle_int, vgt_int, vge_int, vmax_int, vmin_int, vneg_int, vlen_tup, vlen_rol, vtup_rol, vtup_tup, vlist_rol, vlist_tup, vix_tup, vix_rol, vat_0, vat_1, vat_2, vat_3, vat_4, vat_5, vat_6, vsl_tup, vsl_rol, visi_non_bool, visi_non_int, visi_non_str, visi_non_tuple, visi_non_list, visi_bl_bool, visi_bl_int, visi_bl_str, visi_bl_tuple, visi_bl_list, visi_int_bool, visi_int_int, visi_int_str, visi_int_tuple, visi_int_list, visi_str_bool, visi_str_int, visi_str_str, visi_str_tuple, visi_str_list, visi_tup_bool, visi_tup_int, visi_tup_str, visi_tup_tuple, visi_tup_list, visi_key_bool, visi_key_int, visi_key_str, visi_key_tuple, visi_key_list, visi_rol_bool, visi_rol_int, visi_rol_str, visi_rol_tuple, visi_rol_list, dBM, vtyL, vapp, vlen_upd, vix_upd, vsz_0, vsz_1, vsz_2, vsz_3, vsz_4, vsz_5, vsz_6, vsz_7, vsz_8, vsz_9, dIsN, dNotN, D.isN, List.getElem?_cons_zero, List.getElem?_cons_succ, List.set_cons_zero, List.set_cons_succ, List.length_cons, List.length_nil, decide_eq_true_eq, if_true, if_false, Bool.false_eq_true, ite_true, ite_false, true_and, and_true, Bool.not_true, Bool.not_false])
def finB : DSt := (sDrop (dBM "list" mAppend (dVar 8) (dCons (dTup (dCons (dVar 9) (dCons (dOp dIx (dLstF (dCons (dC .non) (dCons (dVar 3) dNil))) (dCB dIntC (dCons (dOp dEq (dCall sd__law_off (dCons (dVar 0) (dCons (dC (.int 9)) dNil))) (dC (.int 0))) dNil))) (dCons (dVar 11) dNil)))) dNil)))
def gueB : DSt := (sSeq (sAsg wordsE (gN 11))
  (sSeq (sIf (dTest (dOp dEq (dCall sd__law_off (dCons (dVar 0) (dCons (dC (.int 5)) dNil))) (dC (.int 0)))) (sAsg (dOp dMulF (dLstF (dCons (dC (.str "passed")) dNil)) (dVar 4)) (gN 11)) sNext)
  finB))
theorem flat_rep (n : Nat) : (List.replicate n [D.str "passed"]).flatten = (List.replicate n ("passed" : Str)).map D.str := by
  induction n with
  | zero => rfl
  | succ n ih => rw [List.replicate_succ, List.replicate_succ, List.flatten_cons, ih, List.map_cons]; rfl
theorem gue_one {a p : Addr} {G0 : DH} {l : List D} {Dn : DEnds} {h z : Int} {n : Nat} {gs : List Gu} {x1 x2 x5 x6 x7 x10 x11 : Option D} (ne : p ≠ a) (dl : Draws l) (hn : n ≤ 5) (hlg : gs.length < 1000)
    (q : ∀ (g : Gu) l' x11, g.hand = z → g.words.length = n → g.Ok → Draws l' → Dn.nx [some (.ref a), x1, x2, some (.int h), some (.int n), x5, x6, x7, some (.ref p), some (.int z), x10, x11] (updD (updD G0 a (.lst l')) p (.lst ((gs ++ [g]).map guD)))) :
    gueB Dn [some (.ref a), x1, x2, some (.int h), some (.int n), x5, x6, x7, some (.ref p), some (.int z), x10, x11] (updD (updD G0 a (.lst l)) p (.lst (gs.map guD))) := by
  unfold gueB
  walk_at "rd"
  refine words_ok ne dl hn fun ws l hw hws dl => ?_
  walk_at "rd"
  refine off_use2 ne dl (by decide) (by decide) fun r l r0 r1 dl => ?_
  have fin : ∀ (ws : List Str) l, ws.length = n → (∀ w ∈ ws, WordOk w) → Draws l → finB Dn [some (.ref a), x1, x2, some (.int h), some (.int n), x5, x6, x7, some (.ref p), some (.int z), x10, some (.rol (ws.map D.str))] (updD (updD G0 a (.lst l)) p (.lst (gs.map guD))) := fun ws l hw hws dl => by
    unfold finB
    walk_at "rd"
    refine off_use2 ne dl (by decide) (by decide) fun r l r0 r1 dl => ?_
    walk_at "rd"
    have fin2 : ∀ b : Option Int, (gs.map guD).length < sizeLine ∧ Dn.nx [some (.ref a), x1, x2, some (.int h), some (.int n), x5, x6, x7, some (.ref p), some (.int z), x10, some (.rol (ws.map D.str))] (updD (updD G0 a (.lst l)) p (.lst (gs.map guD ++ [.tup [.int z, oD b, .rol (ws.map D.str)]]))) := fun b => by
      have := q ⟨z, b, ws⟩ l (some (.rol (ws.map D.str))) rfl hw ⟨hws, by rw [hw]; omega⟩ dl
      rw [List.map_append] at this
      exact ⟨by rw [List.length_map, sizeLine_eq]; omega, this⟩
    by_cases hr : r = 0
    · simp only [hr, decide_true, dIntC]
      walk_at "rd"
      exact fin2 (some h)
    · simp only [hr, decide_false, dIntC]
      walk_at "rd"
      exact fin2 none
  walk_at "rd"
  by_cases hr : r = 0
  · rw [if_pos hr]
    have hp : (List.replicate n [D.str "passed"]).flatten = (List.replicate n ("passed" : Str)).map D.str := flat_rep n
    refine ⟨by omega, by omega, by rw [Int.toNat_natCast, sizeLine_eq, List.length_singleton]; omega, ?_⟩
    rw [Int.toNat_natCast, hp]
    exact fin (List.replicate n "passed") l (List.length_replicate ..) (fun w hw => by rw [(List.mem_replicate.mp hw).2]; unfold WordOk; decide +kernel) dl
  · rw [if_neg hr]
    exact fin ws l hw hws dl
end K16
/-! ### k16: the drawn books, whole -/
namespace K16
open PySem PySem.Spec PyProof.Rows L2 Cc K15
open PySem.W (EachIs AllAlike Sortable dataLe)
local macro_rules | `(tactic| walk_at "rd") => `(tactic| try simp only [sSeq, sIf, sAsg, sRet, sRetN, sDrop, sNext, gN, gT, gsCons, gsNil, gsNames, wipeD, D.tl, dTest, dAnd, dOr, dNot, dAndV, dOrV, dNotV, dIf, dOp, dUn, dVar, dC, dCons, dNil, dCB, dCall, dTup, dLst, dLstF, dYes, blD_bl, dEq_int, dNe_int, dEq_bl, dNe_bl, dEq_str, dChain, vadd_int, vadd_rol, vadd_tup, vmul_int, vsub_int, vlt_int, vle_int, vgt_int, vge_int, vmax_int, vmin_int, vneg_int, vlen_tup, vlen_rol, vtup_rol, vtup_tup, vlist_rol, vlist_tup, vix_tup, vix_rol, vat_0, vat_1, vat_2, vat_3, vat_4, vat_5, vat_6, vsl_tup, vsl_rol, visi_non_bool, visi_non_int, visi_non_str, visi_non_tuple, visi_non_list, visi_bl_bool, visi_bl_int, visi_bl_str, visi_bl_tuple, visi_bl_list, visi_int_bool, visi_int_int, visi_int_str, visi_int_tuple, visi_int_list, visi_str_bool, visi_str_int, visi_str_str, visi_str_tuple, visi_str_list, visi_tup_bool, visi_tup_int, visi_tup_str, visi_tup_tuple, visi_tup_list, visi_key_bool, visi_key_int, visi_key_str, visi_key_tuple, visi_key_list, visi_rol_bool, visi_rol_int, visi_rol_str, visi_rol_tuple, visi_rol_list, dBM, vtyL, vapp, vlen_upd, vix_upd, vsz_0, vsz_1, vsz_2, vsz_3, vsz_4, vsz_5, vsz_6, vsz_7, vsz_8, vsz_9, dIsN, dNotN, D.isN, List.getElem?_cons_zero, List.getElem?_cons_succ, List.set_cons_zero, List.set_cons_succ, List.length_cons, List.length_nil, decide_eq_true_eq, if_true, if_false, Bool.false_eq_true, ite_true, ite_false, true_and, and_true, Bool.not_true, Bool.not_false])
def gueS : DSt := sFor (iSq handsE) (gN 9) gueB
theorem gue_ok {a p : Addr} {G0 : DH} {l : List D} {Dn : DEnds} {h : Int} {n : Nat} {x1 x2 x5 x6 x7 x9 x10 x11 : Option D} (ne : p ≠ a) (dl : Draws l) (hn : n ≤ 5)
    (q : ∀ (gs : List Gu) l' x6 x9 x10 x11, gs.length ≤ 4 → (gs.map Gu.hand).Pairwise (· < ·) → (∀ g ∈ gs, g.words.length = n) → (∀ g ∈ gs, g.Ok) → Draws l' → Dn.nx [some (.ref a), x1, x2, some (.int h), some (.int n), x5, x6, x7, some (.ref p), x9, x10, x11] (updD (updD G0 a (.lst l')) p (.lst (gs.map guD)))) :
    gueS Dn [some (.ref a), x1, x2, some (.int h), some (.int n), x5, x6, x7, some (.ref p), x9, x10, x11] (updD (updD G0 a (.lst l)) p (.lst [])) := by
  unfold gueS sFor iSq
  refine hands_ok ne dl fun hs l hl hp dl => ?_
  walk_at "rd"
  refine goFor_map (f := D.int) (fun xs δ G' => ∃ (gs : List Gu) (l : List D) (x6 x9 x10 x11 : Option D), δ = [some (.ref a), x1, x2, some (.int h), some (.int n), x5, x6, x7, some (.ref p), x9, x10, x11] ∧ gs.length + xs.length ≤ 4 ∧ (gs.map Gu.hand).Pairwise (· < ·) ∧ (∀ g ∈ gs, ∀ y ∈ xs, g.hand < y) ∧ xs.Pairwise (· < ·) ∧ (∀ g ∈ gs, g.words.length = n) ∧ (∀ g ∈ gs, g.Ok) ∧ Draws l ∧ G' = updD (updD G0 a (.lst l)) p (.lst (gs.map guD)))
    (fun _ _ _ _ => trivial) (fun δ G' ⟨gs, l, x6, x9, x10, x11, e, hl, hp, _, _, hw, hg, dl, eG⟩ => ?_) (fun z xs δ G' N ⟨gs, l, x6, x9, x10, x11, e, hl, hp, hx, hxs, hw, hg, dl, eG⟩ hN => ?_) _ _ _ ⟨[], l, x6, x9, x10, x11, rfl, by simpa using hl, .nil, (fun _ h => by cases h), hp, (fun _ h => by cases h), (fun _ h => by cases h), dl, rfl⟩
  · subst e eG
    exact q gs l x6 x9 x10 x11 (by simpa using hl) hp hw hg dl
  · subst e eG
    obtain ⟨hx1, hx2⟩ := List.pairwise_cons.mp hxs
    rw [List.length_cons] at hl
    walk_at "rd"
    refine gue_one ne dl hn (by omega) fun g l' x11 e1 e2 e3 dl => hN _ _ ⟨gs ++ [g], l', _, _, _, _, rfl, by rw [List.length_append]; simp; omega, ?_, fun u hu y hy => ?_, hx2, fun u hu => ?_, fun u hu => ?_, dl, rfl⟩
    · rw [List.map_append, List.pairwise_append]
      refine ⟨hp, List.pairwise_singleton _ _, fun u hu y hy => ?_⟩
      obtain ⟨v, hv, rfl⟩ := List.mem_map.mp hu
      rw [List.map_singleton, List.mem_singleton] at hy
      rw [hy, e1]
      exact hx v hv z List.mem_cons_self
    · rcases List.mem_append.mp hu with hu | hu
      · exact hx u hu y (List.mem_cons_of_mem _ hy)
      · rw [List.mem_singleton.mp hu, e1]
        exact hx1 y hy
    · rcases List.mem_append.mp hu with hu | hu
      · exact hw u hu
      · rw [List.mem_singleton.mp hu]
        exact e2
    · rcases List.mem_append.mp hu with hu | hu
      · exact hg u hu
      · rw [List.mem_singleton.mp hu]
        exact e3
theorem handle_one {gus : List Gu} (h : (gus.map Gu.hand).Pairwise (· < ·)) (me : Int) : (gus.filter fun g => decide (g.hand = me)).length ≤ 1 := by
  induction gus with
  | nil => exact Nat.zero_le _
  | cons g gs ih =>
    rw [List.map_cons, List.pairwise_cons] at h
    rw [List.filter_cons]
    by_cases hg : g.hand = me
    · rw [decide_eq_true hg, if_pos rfl]
      have : gs.filter (fun g => decide (g.hand = me)) = [] := by
        rw [List.filter_eq_nil_iff]
        intro y hy
        have := h.1 y.hand (List.mem_map.mpr ⟨y, hy, rfl⟩)
        simp
        omega
      rw [this]
      exact Nat.le_refl _
    · rw [decide_eq_false hg, if_neg Bool.false_ne_true]
      exact ih h.2
theorem ok_perm {B B' : List Me} (h : Ok B) (p : B.Perm B') : Ok B' := ⟨fun m hm => h.me m (p.mem_iff.mpr hm), by rw [← p.length_eq]; exact h.few⟩
theorem me_keys (B : List Me) : (B.map meD).map kII = (B.map fun m => (m.h, m.n)).map some := by
  rw [List.map_map, List.map_map]
  rfl
theorem sort_me (B : List Me) : ∃ B' : List Me, sortG encII (B.map meD) (B.map fun m => (m.h, m.n)) = B'.map meD ∧ B.Perm B' := by
  unfold sortG
  have e : (B.map meD).zip (B.map fun m => (m.h, m.n)) = B.map fun m => (meD m, (m.h, m.n)) := List.zip_map' ..
  rw [e]
  refine ⟨B.mergeSort fun x y => dataLe false (fun b : D × (Int × Int) => encII b.2) (meD x, (x.h, x.n)) (meD y, (y.h, y.n)), ?_, (List.mergeSort_perm _ _).symm⟩
  rw [List.map_mergeSort (f := fun m : Me => (meD m, (m.h, m.n))) (fun _ _ _ _ => rfl) |>.symm, List.map_map]
  rfl
def tailS : DSt := (sFz 5 (sFz 8 (sDrop (dBM "list" mAppend (dVar 1) (dCons (dTup (dCons (dVar 3) (dCons (dVar 2) (dCons (dOp dAddF (dC (.int 1)) (dCall sd__law_off (dCons (dVar 0) (dCons (dC (.int 3)) dNil)))) (dCons (dC (.str "")) (dCons (dOp dAddF (dC (.int 1)) (dCall sd__law_off (dCons (dVar 0) (dCons (dOp dIx (dLstF (dCons (dC (.int 8)) (dCons (dC (.int 50)) dNil))) (dCall sd__law_off (dCons (dVar 0) (dCons (dC (.int 2)) dNil)))) dNil)))) (dCons (dVar 5) (dCons (dVar 8) dNil)))))))) dNil)))))
def bodyS : DSt := (sSeq (sAsg (dCall sd__law_off (dCons (dVar 0) (dCons (dC (.int 4)) dNil))) (gN 3))
  (sSeq (sAsg (dOp dAddF (dC (.int 1)) (dCall sd__law_off (dCons (dVar 0) (dCons (dC (.int 5)) dNil)))) (gN 4))
  (sSeq (sAsg (dLst dNil) (gN 5))
  (sSeq momS
  (sSeq (sAsg (dLst dNil) (gN 8))
  (sSeq gueS
  tailS))))))
theorem book_eq : b__law_book = (sSeq (sAsg (dLst dNil) (gN 1))
  (sSeq (sFor (iRange1 (dCall sd__law_off (dCons (dVar 0) (dCons (dOp dIx (dLstF (dCons (dC (.int 9)) (dCons (dC (.int 9)) (dCons (dC (.int 21)) dNil)))) (dCall sd__law_off (dCons (dVar 0) (dCons (dC (.int 3)) dNil)))) dNil)))) (gN 2) bodyS)
  (sFz 1 (sRet (dSortGF encII kII (dVar 1)))))) := rfl
theorem pure_law_book (ds : List D) (G : DH) (R : DK) (EX : DX) (h : sd__law_book ds G R EX) : b__law_book (endsD (frg R) EX) (startD N__law_book ds) G := by
  obtain ⟨a, l, rfl, ha, dl, q⟩ := h
  rw [← updD_id ha]
  have q : ∀ B l', Ok B → Draws l' → R (bkD B) (updD G a (.lst l')) := q
  show b__law_book (endsD (frg R) EX) [some (.ref a), none, none, none, none, none, none, none, none, none, none, none] _
  rw [book_eq]
  walk_at "rd"
  intro f hf
  obtain ⟨hf, nfa⟩ := none_up hf
  simp only [sFor, iRange1]
  walk_at "rd"
  refine off_use2 nfa dl (by decide) (by decide) fun r l r0 r1 dl => ?_
  have run : ∀ (m : Int) l, 0 < m → m ≤ 21 → Draws l → sd__law_off [.ref a, .int m] (updD (updD G a (.lst l)) f (.lst [])) (fun d G1 => match d with
        | .int j => (-2 ^ 62 ≤ j ∧ j < 2 ^ 62) ∧ goFor (fun _ => True) (gN 2) bodyS { nx := sFz 1 (sRet (dSortGF encII kII (dVar 1))) (endsD (frg R) EX), rt := frg R, ex := EX } (rangeD 0 j.toNat) [some (.ref a), some (.ref f), none, none, none, none, none, none, none, none, none, none] G1
        | _ => False) EX := fun m l m0 m1 dl => by
    refine off_use2 nfa dl m0 (by omega) fun r l r0 r1 dl => ?_
    refine ⟨⟨by omega, by omega⟩, ?_⟩
    rw [rangeD_map]
    refine goFor_map (f := fun i : Nat => D.int (i : Int)) (fun xs δ G' => ∃ (B : List Me) (l : List D) (o2 o3 o4 o5 o6 o7 o8 o9 o10 o11 : Option D), δ = [some (.ref a), some (.ref f), o2, o3, o4, o5, o6, o7, o8, o9, o10, o11] ∧ B.length + xs.length ≤ 21 ∧ (∀ m ∈ B, m.Ok) ∧ Draws l ∧ G' = updD (updD G a (.lst l)) f (.lst (B.map meD)))
      (fun _ _ _ _ => trivial) (fun δ G' ⟨B, l, o2, o3, o4, o5, o6, o7, o8, o9, o10, o11, e, hl, ok, dl, eG⟩ => ?_) (fun i xs δ G' N ⟨B, l, o2, o3, o4, o5, o6, o7, o8, o9, o10, o11, e, hl, ok, dl, eG⟩ hN => ?_) _ _ _ ⟨[], l, _, _, _, _, _, _, _, _, _, _, rfl, by rw [List.length_range, List.length_nil]; omega, (fun _ h => by cases h), dl, rfl⟩
    · subst e eG
      rw [List.length_nil] at hl
      dsimp only
      refine sFz_lst rfl updD_same ?_
      rw [delD_updD (by rw [updD_ne nfa]; exact hf)]
      simp only [sRet, dSortGF]
      walk_at "rd"
      obtain ⟨B', e1, e2⟩ := sort_me B
      refine ⟨B.map meD, B.map fun m => (m.h, m.n), rfl, me_keys B, by rw [List.length_map, sizeLine_eq]; omega, ?_⟩
      rw [e1]
      exact frg_of (q B' l (ok_perm ⟨ok, by omega⟩ e2) dl)
    · subst e eG
      rw [List.length_cons] at hl
      unfold bodyS
      walk_at "rd"
      refine off_use2 nfa dl (by decide) (by decide) fun h l h0 h1 dl => ?_
      walk_at "rd"
      refine off_use2 nfa dl (by decide) (by decide) fun c l c0 c1 dl => ?_
      walk_at "rd"
      intro p hp
      obtain ⟨hp, npf⟩ := none_up hp
      obtain ⟨hp, npa⟩ := none_up hp
      have ec : (1 + c : Int) = ((1 + c).toNat : Int) := by omega
      rw [ec, updD_comm (Ne.symm nfa)]
      have hc : (1 + c).toNat ≤ 5 := by omega
      generalize (1 + c).toNat = n at hc
      refine mom_ok npa dl hc fun mos l o6 o7 hml hmk dl => ?_
      dsimp only
      walk_at "rd"
      intro g hg
      obtain ⟨hg, ngp⟩ := none_up hg
      obtain ⟨hg, nga⟩ := none_up hg
      obtain ⟨hg, ngf⟩ := none_up hg
      rw [updD_comm (Ne.symm npa)]
      refine gue_ok nga dl hc fun gs l o6 o9 o10 o11 hgl hgp hgw hgo dl => ?_
      dsimp only
      unfold tailS
      walk_at "rd"
      refine sFz_lst (p := p) (l := mos.map Mo.d) rfl (by rw [updD_ne (Ne.symm ngp), updD_ne npa, updD_same]) ?_
      rw [delD_put ngp, delD_put (Ne.symm npa), delD_updD (by rw [updD_ne npf]; exact hp)]
      refine sFz_lst (p := g) (l := gs.map guD) rfl updD_same ?_
      rw [delD_updD (by rw [updD_ne nga, updD_ne ngf]; exact hg), updD_comm nfa]
      walk_at "rd"
      refine off_use2 nfa dl (by decide) (by decide) fun v l v0 v1 dl => ?_
      rw [vadd_int]
      refine off_use2 nfa dl (by decide) (by decide) fun r2 l r20 r21 dl => ?_
      have fin : ∀ (m : Int) l, 0 < m → m ≤ 50 → Draws l → sd__law_off [.ref a, .int m] (updD (updD G a (.lst l)) f (.lst (B.map meD))) (fun y G2 => dAddF (.int 1) y G2 fun x_2 G1 => mAppend (.ref f) [.tup [.int h, .int i, .int (1 + v), .str "", x_2, .rol (mos.map Mo.d), .rol (gs.map guD)]] G1 fun _ G1 => N [some (.ref a), some (.ref f), some (.int i), some (.int h), some (.int n), some (.rol (mos.map Mo.d)), o6, o7, some (.rol (gs.map guD)), o9, o10, o11] G1) EX := fun m l m0 m1 dl => by
        refine off_use2 nfa dl m0 (by omega) fun lg l l0 l1 dl => ?_
        rw [vadd_int, vapp]
        refine ⟨by rw [List.length_map, sizeLine_eq]; omega, hN _ _ ⟨B ++ [⟨h, i, 1 + v, 1 + lg, mos, gs⟩], l, _, _, _, _, _, _, _, _, _, _, rfl, by rw [List.length_append, List.length_singleton]; omega, fun m hm => ?_, dl, by rw [List.map_append]; rfl⟩⟩
        rcases List.mem_append.mp hm with hm | hm
        · exact ok m hm
        · rw [List.mem_singleton.mp hm]
          refine ⟨by show 0 < 1 + lg; omega, fun mo hmo g hgm => ?_, handle_one hgp, hgo, by show mos.length ≤ 10; omega, by show gs.length ≤ 100; omega⟩
          rw [hgw g hgm]
          exact hmk mo hmo
      exact menu2 r20 r21 fun x hx => by
        rcases hx with rfl | rfl
        · exact fin _ _ (by decide) (by decide) dl
        · exact fin _ _ (by decide) (by decide) dl
  refine menuD r0 (by simpa using r1) fun y hy => ?_
  simp only [List.mem_cons, List.not_mem_nil, or_false] at hy
  rcases hy with rfl | rfl | rfl
  · exact run _ _ (by decide) (by decide) dl
  · exact run _ _ (by decide) (by decide) dl
  · exact run _ _ (by decide) (by decide) dl
end K16
/-! ### k16: the law by its reading -/
namespace K16
open PySem PySem.Spec PyProof.Rows L2 Cc K15
open PySem.W (EachIs AllAlike Sortable dataLe)
local macro_rules | `(tactic| walk_at "rd") => `(tactic| try simp only [sSeq, sIf, sAsg, sRet, sRetN, sDrop, sNext, gN, gT, gsCons, gsNil, gsNames, wipeD, D.tl, dTest, dAnd, dOr, dNot, dAndV, dOrV, dNotV, dIf, dOp, dUn, dVar, dC, dCons, dNil, dCB, dCall, dTup, dLst, dLstF, dYes, blD_bl, dEq_int, dNe_int, dEq_bl, dNe_bl, dEq_str, dChain, vadd_int, vadd_rol, vadd_tup, vmul_int, vsub_int, vlt_int, vle_int, vgt_int, vge_int, vmax_int, vmin_int, vneg_int, vlen_tup, vlen_rol, vtup_rol, vtup_tup, vlist_rol, vlist_tup, vix_tup, vix_rol, vat_0, vat_1, vat_2, vat_3, vat_4, vat_5, vat_6, vsl_tup, vsl_rol, visi_non_bool, visi_non_int, visi_non_str, visi_non_tuple, visi_non_list, visi_bl_bool, visi_bl_int, visi_bl_str, visi_bl_tuple, visi_bl_list, visi_int_bool, visi_int_int, visi_int_str, visi_int_tuple, visi_int_list, visi_str_bool, visi_str_int, visi_str_str, visi_str_tuple, visi_str_list, visi_tup_bool, visi_tup_int, visi_tup_str, visi_tup_tuple, visi_tup_list, visi_key_bool, visi_key_int, visi_key_str, visi_key_tuple, visi_key_list, visi_rol_bool, visi_rol_int, visi_rol_str, visi_rol_tuple, visi_rol_list, dBM, vtyL, vapp, vlen_upd, vix_upd, vsz_0, vsz_1, vsz_2, vsz_3, vsz_4, vsz_5, vsz_6, vsz_7, vsz_8, vsz_9, dIsN, dNotN, D.isN, List.getElem?_cons_zero, List.getElem?_cons_succ, List.set_cons_zero, List.set_cons_succ, List.length_cons, List.length_nil, decide_eq_true_eq, if_true, if_false, Bool.false_eq_true, ite_true, ite_false, true_and, and_true, Bool.not_true, Bool.not_false])
def whlS : DSt := (sWhile (dTest (dOp dNe (dLcF (iSq (dVar 7)) (gN 11) (dAnd (dTest (dOp dLt (dOp dIx (dVar 11) (dC (.int 0))) (dOp dAddF (dVar 10) (dVar 6)))) (dTest (dOp dLt (dVar 10) (dOp dIx (dVar 11) (dC (.int 1)))))) (dVar 11) [11]) (dLstF dNil))) (sAsg (dOp dAddF (dVar 10) (dC (.int 1))) (gN 10)))
def keptE : DE := (dLcF (iSq (dVar 3)) (gT 2 (gsNames [8, 9])) dYes (dTup (dCons (dVar 8) (dCons (dCB dListF (dCons (dVar 9) dNil)) dNil))) [8, 9])
def endS (C_BadPlan : Addr) : DSt := (sSeq (sAsg keptE (gN 12))
  (sSeq (sIf (dOr (dNot (dTest (dCall (sd__law_alike 6) (dCons (dCall (sd_free C_BadPlan) (dCons (dVar 3) (dCons (dVar 5) (dCons (dVar 6) dNil)))) (dCons (dVar 10) dNil))))) (dTest (dOp dNe (dVar 3) (dVar 12)))) (sRet (dC (.bl false))) sNext)
  (sSeq (sAsg (dCB dMax2 (dCons (dC (.int 0)) (dCons (dOp dSub (dCall sd__law_off (dCons (dVar 1) (dCons (dOp dPow (dC (.int 10)) (dC (.int 6))) dNil))) (dC (.int 500000))) dNil))) (gN 13))
  (sSeq (sAsg (dOp dIx (dLstF (dCons (dTup (dCons (dOp dSub (dUn dNeg (dC (.int 1))) (dVar 13)) (dCons (dC (.int 1)) dNil))) (dCons (dTup (dCons (dOp dAddF (dC (.int 1000)) (dVar 13)) (dCons (dC (.int 1)) dNil))) (dCons (dTup (dCons (dC (.int 0)) (dCons (dC (.int 0)) dNil))) (dCons (dTup (dCons (dC (.int 0)) (dCons (dOp dAddF (dC (.int 51)) (dVar 13)) dNil))) dNil))))) (dCall sd__law_off (dCons (dVar 1) (dCons (dC (.int 4)) dNil)))) (gN 14))
  (sIf (dNot (dTest (dRefuse (dCall (sd_free C_BadPlan) (dCons (dVar 3) (dCons (dOp dIx (dVar 14) (dC (.int 0))) (dCons (dOp dIx (dVar 14) (dC (.int 1))) dNil)))) C_BadPlan))) (sRet (dC (.bl false))) sNext)))))
def restS (C_BadPlan : Addr) : DSt := (sSeq (sAsg (dTup (dCons (dCall sd__law_off (dCons (dVar 1) (dCons (dOp dIx (dLstF (dCons (dC (.int 40)) (dCons (dC (.int 1000)) dNil))) (dCall sd__law_off (dCons (dVar 1) (dCons (dC (.int 2)) dNil)))) dNil))) (dCons (dOp dAddF (dC (.int 1)) (dCall sd__law_off (dCons (dVar 1) (dCons (dOp dIx (dLstF (dCons (dC (.int 9)) (dCons (dC (.int 50)) dNil))) (dCall sd__law_off (dCons (dVar 1) (dCons (dC (.int 2)) dNil)))) dNil)))) dNil))) (gT 2 (gsCons (gN 5) (gsCons (gN 6) gsNil))))
  (sSeq (sAsg (dLstF dNil) (gN 7))
  (sSeq (sFor (iSq (dVar 3)) (gT 2 (gsCons (gN 8) (gsCons (gN 9) gsNil))) (sAsg (dOp dAddF (dVar 7) (dCall sd__law_times (dCons (dVar 9) (dCons (dVar 8) dNil)))) (gN 7)))
  (sSeq (sAsg (dVar 5) (gN 10))
  (sSeq whlS
  (endS C_BadPlan))))))
def turnS (C_BadPlan : Addr) : DSt := (sSeq (sAsg (dLcF (iRange1 (dCall sd__law_off (dCons (dVar 1) (dCons (dOp dIx (dLstF (dCons (dC (.int 5)) (dCons (dC (.int 9)) dNil))) (dCall sd__law_off (dCons (dVar 1) (dCons (dC (.int 2)) dNil)))) dNil)))) (gN 4) dYes (dTup (dCons (dCall sd__law_off (dCons (dVar 1) (dCons (dC (.int 4)) dNil))) (dCons (dCall sd__law_book (dCons (dVar 1) dNil)) dNil))) [4]) (gN 3))
  (restS C_BadPlan))
theorem law_eq (C_BadPlan : Addr) : b_law C_BadPlan = (sSeq (sAsg (dCall sd__law_dice (dCons (dVar 0) (dCons (dC (.int 0)) dNil))) (gN 1))
  (sSeq (sFor (iRange1 (dC (.int 4))) (gN 2) (turnS C_BadPlan))
  (sRet (dC (.bl true))))) := rfl
theorem d2_rdd {G : DH} (t : T5) : Rdd G t.d2 (.tuple [.int t.b, .int t.e, t.key.p]) := .tup rfl (.cons (.int _) (.cons (.int _) (.cons (.tup rfl (.cons (.int _) (.cons (.int _) (.cons (.int _) .nil)))) .nil)))
theorem d2_shaped (T : List T5) : SeqAt.shaped (.list (T.map fun t => PyData.tuple [.int t.b, .int t.e, t.key.p])) = true := by
  refine shaped_by ?_ ?_
  · rw [PyData.canLay0]
    exact lay_map fun t _ => by simp [K3.p, PyData.canLay0, PyData.canLayAll0]
  · rw [PyData.depth]
    have : PyData.depthAll (T.map fun t => PyData.tuple [.int t.b, .int t.e, t.key.p]) ≤ 2 := dep_map fun t _ => by simp [K3.p, PyData.depth, PyData.depthAll]
    omega
/-- the while of the law: it stops at the least free moment -/
theorem whl_ok {Bs : List Bk} {lo lg : Int} {G : DH} {Dn : DEnds} {x0 x1 x2 x3 x5 x8 x9 x12 x13 x14 : Option D} (hl : (timesA Bs).length ≤ 10000)
    (q : ∀ x11, Dn.nx [x0, x1, x2, x3, x4, x5, some (.int lg), some (.rol ((timesA Bs).map T5.d2)), x8, x9, some (.int (freeM (timesS Bs) lo lg)), x11, x12, x13, x14] G) :
    whlS Dn [x0, x1, x2, x3, x4, x5, some (.int lg), some (.rol ((timesA Bs).map T5.d2)), x8, x9, some (.int lo), x11, x12, x13, x14] G := by
  obtain ⟨f1, f2, f3⟩ := free_least (timesS Bs) lo lg
  unfold whlS sWhile
  refine ⟨fun m δ G' => ∃ (due : Int) (x11 : Option D), δ = [x0, x1, x2, x3, x4, x5, some (.int lg), some (.rol ((timesA Bs).map T5.d2)), x8, x9, some (.int due), x11, x12, x13, x14] ∧ G' = G ∧ lo ≤ due ∧ due + m = freeM (timesS Bs) lo lg, ⟨(freeM (timesS Bs) lo lg - lo).toNat, lo, x11, rfl, rfl, Int.le_refl _, by omega⟩, ?_⟩
  rintro m δ G' ⟨due, x11, rfl, rfl, h1, h2⟩
  walk_at "rd"
  simp only [dLcF, iSq, dVar]
  walk_at "rd"
  refine goLcF_map (f := T5.d2) (fun t : T5 => if clash lg t due = true then some t.d2 else none) trivial (fun t C1 C2 hC => ?_) (timesA Bs) [] (by rw [sizeLine_eq]; simp; omega) ?_
  · unfold clash at hC
    unfold T5.d2
    walk_at "rd"
    by_cases c1 : t.b < due + lg
    · by_cases c2 : due < t.e
      · simp only [c1, c2, decide_true, Bool.and_true, if_true] at hC ⊢
        exact hC
      · simp only [c1, c2, decide_true, decide_false, Bool.and_false, Bool.false_eq_true, if_true, if_false] at hC ⊢
        exact hC
    · simp only [c1, decide_false, Bool.false_and, Bool.false_eq_true, if_false] at hC ⊢
      exact hC
  · rw [List.nil_append]
    have efm : ∀ l : List T5, (l.filterMap fun t => if clash lg t due = true then some t.d2 else none) = (l.filter fun t => clash lg t due).map T5.d2 := fun l => by
      induction l with
      | nil => rfl
      | cons t l ih =>
        rw [List.filterMap_cons, List.filter_cons, ih]
        cases clash lg t due <;> rfl
    rw [efm]
    refine vne_nil (rdd_map fun t _ => d2_rdd t) (d2_shaped _) ?_
    walk_at "rd"
    by_cases hd : due = freeM (timesS Bs) lo lg
    · have : (timesA Bs).filter (fun t => clash lg t due) = [] := by
        rw [List.filter_eq_nil_iff]
        intro t ht
        rw [hd, f3 t ((times_mem Bs t).mpr ht)]
        exact Bool.false_ne_true
      rw [this]
      simp only [List.map_nil, List.isEmpty_nil, Bool.not_true, Bool.false_eq_true, if_false]
      rw [hd]
      exact q x11
    · obtain ⟨t, ht, hc⟩ := f2 due h1 (by omega)
      have ht := (times_mem Bs t).mp ht
      cases hf : (timesA Bs).filter fun t => clash lg t due with
      | nil => exact absurd hc (by rw [List.filter_eq_nil_iff] at hf; exact hf t ht)
      | cons u us =>
        simp only [List.map_cons, List.isEmpty_cons, Bool.not_false, if_true]
        exact ⟨m - 1, by omega, due + 1, x11, rfl, by omega, by omega⟩
theorem timesA_snoc (a : List Bk) (b : Bk) : timesA (a ++ [b]) = timesA a ++ timesM b.2 b.1 := by
  unfold timesA
  rw [List.flatMap_append, List.flatMap_cons, List.flatMap_nil, List.append_nil]
theorem timesA_len : ∀ (a : List Bk), (∀ b ∈ a, Ok b.2) → (timesA a).length ≤ a.length * 300
  | [], _ => Nat.le_refl _
  | b :: bs, h => by
    have ih := timesA_len bs fun x hx => h x (List.mem_cons_of_mem _ hx)
    have h1 := times_len (h b List.mem_cons_self) (me := b.1)
    unfold timesA at ih ⊢
    rw [List.flatMap_cons, List.length_append, List.length_cons]
    omega
theorem kept_ok {Bs : List Bk} {δ : DS} {G : DH} {R : DK} {EX : DX} (h3 : δ[3]? = some (some (.rol (Bs.map pbD)))) (hw : δ.length = 15) (hl : Bs.length ≤ 10) (q : R (.rol (Bs.map pbD)) G) : keptE δ G R EX := by
  unfold keptE
  simp only [dLcF, iSq, dVar, h3]
  walk_at "rd"
  refine goLcF_map (f := pbD) (fun b : Bk => some (pbD b)) trivial (fun b C1 C2 hC => ?_) Bs [] (by simp; exact sz_small (by omega)) ?_
  · dsimp only at hC
    unfold pbD at hC ⊢
    match δ, hw with
    | [y0, y1, y2, y3, y4, y5, y6, y7, y8, y9, y10, y11, y12, y13, y14], _ =>
    walk_at "rd"
    exact hC
  · rw [List.nil_append, List.filterMap_eq_map']
    exact q
theorem okT_hi {lo lg : Int} (h : 999 < lo ∨ lo < 0 ∨ lg < 1 ∨ 50 < lg) : okT lo lg = false := by
  unfold okT Pl.btw
  simp only [Bool.and_eq_false_iff, decide_eq_false_iff_not]
  omega
theorem okT_in {lo lg : Int} (h : 0 ≤ lo ∧ lo ≤ 999 ∧ 1 ≤ lg ∧ lg ≤ 50) : okT lo lg = true := by
  unfold okT Pl.btw
  simp only [Bool.and_eq_true, decide_eq_true_eq]
  omega
theorem end_ok {C : Addr} {Bs : List Bk} {lo lg : Int} {d : Addr} {l : List D} {G : DH} {Dn : DEnds} {x0 x2 x4 x7 x8 x9 x11 x12 x13 x14 : Option D} (ok : ∀ b ∈ Bs, Ok b.2) (hl : Bs.length ≤ 10) (hok : okT lo lg = true) (dl : Draws l) (hd : G d = some (.lst l))
    (q : ∀ l G2 x12 x13 x14, Draws l → G2 d = some (.lst l) → Dn.nx [x0, some (.ref d), x2, some (.rol (Bs.map pbD)), x4, some (.int lo), some (.int lg), x7, x8, x9, some (.int (freeM (timesS Bs) lo lg)), x11, x12, x13, x14] G2) :
    endS C Dn [x0, some (.ref d), x2, some (.rol (Bs.map pbD)), x4, some (.int lo), some (.int lg), x7, x8, x9, some (.int (freeM (timesS Bs) lo lg)), x11, x12, x13, x14] G := by
  unfold endS
  walk_at "rd"
  refine kept_ok rfl rfl hl ?_
  walk_at "rd"
  refine ⟨Bs, lo, lg, rfl, by omega, ok, fun _ => ?_, fun h => by rw [hok] at h; cases h⟩
  walk_at "rd"
  refine ⟨_, _, .int (freeM (timesS Bs) lo lg), rfl, .int _, .int _, by simp [PyData.depth], rfl, ?_⟩
  walk_at "rd"
  refine vne_self (rdd_map fun b _ => rdd_pb b) (rdd_map fun b _ => rdd_pb b) (shaped_pbs ok) ?_
  walk_at "rd"
  refine pow_int (n := 6) ⟨by omega, by omega, by decide⟩ ?_
  rw [← updD_id hd]
  refine off_use dl (by decide) (by decide) fun r l r0 r1 dl => ?_
  walk_at "rd"
  obtain ⟨far, hfar, f0⟩ : ∃ far : Int, (if r - 500000 > 0 then r - 500000 else 0) = far ∧ 0 ≤ far := ⟨_, rfl, by split <;> omega⟩
  rw [hfar]
  refine off_use dl (by decide) (by decide) fun k l k0 k1 dl => ?_
  refine menuD k0 (by simpa using k1) fun y hy => ?_
  have fin : ∀ a b : Int, y = .tup [.int a, .int b] → okT a b = false → dRefuse (dCall (sd_free C) (dCons (dVar 3) (dCons (dOp dIx (dVar 14) (dC (.int 0))) (dCons (dOp dIx (dVar 14) (dC (.int 1))) dNil)))) C [x0, some (.ref d), x2, some (.rol (Bs.map pbD)), x4, some (.int lo), some (.int lg), x7, x8, x9, some (.int (freeM (timesS Bs) lo lg)), x11, some (.rol (Bs.map pbD)), some (.int far), some y] (updD G d (.lst l)) (blD fun c G1 => if (!c) = true then Dn.rt (.bl false) G1 else Dn.nx [x0, some (.ref d), x2, some (.rol (Bs.map pbD)), x4, some (.int lo), some (.int lg), x7, x8, x9, some (.int (freeM (timesS Bs) lo lg)), x11, some (.rol (Bs.map pbD)), some (.int far), some y] G1) Dn.ex := fun a b e h => by
    subst e
    simp only [dRefuse]
    walk_at "rd"
    refine ⟨Bs, a, b, rfl, by omega, ok, fun h2 => absurd (h.symm.trans h2) (by decide), fun _ => ⟨rfl, rfl, fun G2 s2 => ?_⟩⟩
    walk_at "rd"
    exact q l G2 _ _ _ dl (s2 _ _ updD_same)
  simp only [List.mem_cons, List.not_mem_nil, or_false] at hy
  rcases hy with e | e | e | e
  · exact fin _ _ e (okT_hi (by omega))
  · exact fin _ _ e (okT_hi (by omega))
  · exact fin _ _ e (okT_hi (by omega))
  · exact fin _ _ e (okT_hi (by omega))
theorem rest_ok {C : Addr} {Bs : List Bk} {d : Addr} {l : List D} {G : DH} {Dn : DEnds} {x0 x2 x4 x5 x6 x7 x8 x9 x10 x11 x12 x13 x14 : Option D} (ok : ∀ b ∈ Bs, Ok b.2) (hl : Bs.length ≤ 10) (dl : Draws l)
    (q : ∀ l G2 x4 x5 x6 x7 x8 x9 x10 x11 x12 x13 x14, Draws l → G2 d = some (.lst l) → Dn.nx [x0, some (.ref d), x2, some (.rol (Bs.map pbD)), x4, x5, x6, x7, x8, x9, x10, x11, x12, x13, x14] G2) :
    restS C Dn [x0, some (.ref d), x2, some (.rol (Bs.map pbD)), x4, x5, x6, x7, x8, x9, x10, x11, x12, x13, x14] (updD G d (.lst l)) := by
  unfold restS
  walk_at "rd"
  refine off_use dl (by decide) (by decide) fun r l r0 r1 dl => ?_
  refine menu2 r0 r1 fun y hy => ?_
  have hy : 0 < y ∧ y ≤ 1000 := by omega
  refine off_use dl hy.1 (by omega) fun lo l lo0 lo1 dl => ?_
  walk_at "rd"
  refine off_use dl (by decide) (by decide) fun r l r0 r1 dl => ?_
  refine menu2 r0 r1 fun z hz => ?_
  have hz : 0 < z ∧ z ≤ 50 := by omega
  refine off_use dl hz.1 (by omega) fun lg l lg0 lg1 dl => ?_
  walk_at "rd"
  simp only [vadd_int, sFor, iSq, dVar]
  walk_at "rd"
  refine goFor_map (f := pbD) (fun xs δ G' => (∃ (o8 o9 : Option D) (pre : List Bk), δ = [x0, some (.ref d), x2, some (.rol (Bs.map pbD)), x4, some (.int lo), some (.int (1 + lg)), some (.rol ((timesA pre).map T5.d2)), o8, o9, x10, x11, x12, x13, x14] ∧ pre ++ xs = Bs) ∧ G' = updD G d (.lst l))
    (fun _ _ _ _ => trivial) (fun δ G' ⟨⟨o8, o9, pre, e, ep⟩, eG⟩ => ?_) (fun b xs δ G' N ⟨⟨o8, o9, pre, e, ep⟩, eG⟩ hN => ?_) _ _ _ ⟨⟨_, _, [], rfl, rfl⟩, rfl⟩
  · subst e eG
    rw [List.append_nil] at ep
    subst ep
    have := timesA_len pre ok
    walk_at "rd"
    refine whl_ok (by omega) fun x11 => ?_
    dsimp only
    exact end_ok ok hl (okT_in (by omega)) dl updD_same fun l G2 x12 x13 x14 dl hd => q l G2 _ _ _ _ _ _ _ _ _ _ _ dl hd
  · subst e eG
    have hb : b ∈ Bs := by rw [← ep]; simp
    unfold pbD
    walk_at "rd"
    refine ⟨b.1, b.2, rfl, ok b hb, ?_⟩
    have h1 := timesA_len pre fun x hx => ok x (by rw [← ep]; exact List.mem_append_left _ hx)
    have h2 := times_len (ok b hb) (me := b.1)
    have h3 := congrArg List.length ep
    rw [List.length_append] at h3
    dsimp only
    rw [vadd_rol]
    refine ⟨by rw [List.length_map, List.length_map, sizeLine_eq]; omega, ?_⟩
    rw [← List.map_append, ← timesA_snoc]
    exact hN _ _ ⟨⟨_, _, pre ++ [b], rfl, by rw [List.append_assoc]; exact ep⟩, rfl⟩
theorem pure_law (C : Addr) (ds : List D) (G : DH) (R : DK) (EX : DX) (h : sdLaw ds G R EX) : b_law C (endsD (frg R) EX) (startD N_law ds) G := by
  obtain ⟨x, ns, rfl, hx, hn, q⟩ := h
  show b_law C (endsD (frg R) EX) [some x, none, none, none, none, none, none, none, none, none, none, none, none, none, none] G
  rw [law_eq]
  walk_at "rd"
  refine ⟨x, 0, ns, rfl, hx, by omega, fun d l hd dl => ?_⟩
  simp only [sFor, iRange1]
  walk_at "rd"
  refine ⟨⟨by omega, by omega⟩, ?_⟩
  rw [rangeD_map]
  refine goFor_map (f := fun i : Nat => D.int (i : Int)) (fun xs δ G' => (∃ o2 o3 o4 o5 o6 o7 o8 o9 o10 o11 o12 o13 o14 : Option D, δ = [some x, some (.ref d), o2, o3, o4, o5, o6, o7, o8, o9, o10, o11, o12, o13, o14]) ∧ ∃ l, G' d = some (.lst l) ∧ Draws l)
    (fun _ _ _ _ => trivial) (fun δ G' _ => ?_) (fun i xs δ G' N ⟨⟨o2, o3, o4, o5, o6, o7, o8, o9, o10, o11, o12, o13, o14, e⟩, l, hd, dl⟩ hN => ?_) _ _ _ ⟨⟨_, _, _, _, _, _, _, _, _, _, _, _, _, rfl⟩, l, updD_same, dl⟩
  · exact frg_of (q _)
  · subst e
    unfold turnS
    rw [← updD_id hd]
    walk_at "rd"
    simp only [dLcF, iRange1]
    walk_at "rd"
    refine off_use dl (by decide) (by decide) fun r l r0 r1 dl => ?_
    refine menu2 r0 r1 fun m hm => ?_
    have hm : 0 < m ∧ m ≤ 9 := by omega
    refine off_use dl hm.1 (by omega) fun n l n0 n1 dl => ?_
    refine ⟨⟨by omega, by omega⟩, ?_⟩
    rw [rangeD_map]
    refine goLcF_inv (f := fun i : Nat => D.int (i : Int)) (fun xs acc G1 => ∃ (Bs : List Bk) (l : List D), acc = Bs.map pbD ∧ Bs.length + xs.length ≤ 9 ∧ (∀ b ∈ Bs, Ok b.2) ∧ Draws l ∧ G1 = updD G' d (.lst l))
      (fun _ _ _ _ => trivial) (fun xs acc G1 ⟨Bs, l, e, hl, _⟩ => ?_) (fun acc G1 ⟨Bs, l, e, hl, ok, dl, eG⟩ => ?_) (fun j xs acc G1 C1 C2 ⟨Bs, l, e, hl, ok, dl, eG⟩ h1 h2 => ?_) _ _ _ ⟨[], l, rfl, by simp; omega, (fun _ h => by cases h), dl, rfl⟩
    · rw [e, List.length_map, sizeLine_eq]
      omega
    · subst e eG
      rw [List.length_nil] at hl
      exact rest_ok ok (by omega) dl fun l G2 x4 x5 x6 x7 x8 x9 x10 x11 x12 x13 x14 dl hd => hN _ _ ⟨⟨_, _, _, _, _, _, _, _, _, _, _, _, _, rfl⟩, l, hd, dl⟩
    · subst e eG
      rw [List.length_cons] at hl
      walk_at "rd"
      refine off_use dl (by decide) (by decide) fun me l _ _ dl => ?_
      walk_at "rd"
      refine ⟨d, l, rfl, updD_same, dl, fun B l okB dl => ?_⟩
      rw [updD_updD]
      refine h1 _ _ ⟨Bs ++ [(me, B)], l, by rw [List.map_append]; rfl, by rw [List.length_append, List.length_singleton]; omega, fun b hb => ?_, dl, rfl⟩
      rcases List.mem_append.mp hb with hb | hb
      · exact ok b hb
      · rw [List.mem_singleton.mp hb]
        exact okB
end K16
/-! ### k16: _law_refused -/
namespace K16
open PySem PySem.Spec PyProof.Rows L2 Cc
def top (i : Nat) : Stmt := PySem.Challenge.pw_crosscalls_k16_free_moments.main.body.getD i (.Pass ⟨0, 0, 0, 0⟩)
abbrev s_ref : Stmt := top 20
abbrev N_ref : List Str := ["_law_work", "_law_word", "_law_value", "_law_kinds", "_law_words", "_law_one", "e"]
theorem sc_ref : FnScope N_ref ["_law_work", "_law_word", "_law_value"] (defScope s_ref) := ⟨rfl, rfl, rfl, by decide +kernel, rfl, by decide +kernel, by decide +kernel⟩
structure TxR (K : PySem.W.Frag) (mg : Str → Option Value) where
  aE : Addr
  aH : Addr
  aP : Addr
  aW : Addr
  aM : Addr
  aL : Addr
  aT : Addr
  cE : mg "CallError" = some (.ref aE)
  cH : GloC K mg "BadHand" (.ref aH)
  cP : GloC K mg "BadPlan" (.ref aP)
  cW : GloC K mg "BadWord" (.ref aW)
  cM : GloC K mg "NoMeeting" (.ref aM)
  cL : GloC K mg "BadLetter" (.ref aL)
  cT : GloC K mg "BadText" (.ref aT)
  f_isinstance : mg "isinstance" = none
  f_ValueError : mg "ValueError" = none
def isE (K : PySem.W.Frag) (a C : Addr) (c : D) : DE := dCB (dIsE K a C) (dCons (dVar 6) (dCons (dC c) dNil))
def b_suite (K : PySem.W.Frag) (a C aH aP aW aM aL aT : Addr) : DSt :=
  (sSeq (sAsg (dLst (dCons (isE K a C (.ref aH)) (dCons (isE K a C (.ref aP)) (dCons (isE K a C (.ref aW)) (dCons (isE K a C (.ref aM)) dNil))))) (gN 3))
  (sSeq (sAsg (dOp dAdd (dVar 3) (dLst (dCons (isE K a C (.ref aL)) (dCons (isE K a C (.ref aT)) dNil)))) (gN 3))
  (sSeq (sAsg (dLst (dCons (dC (.str "hand")) (dCons (dC (.str "plan")) (dCons (dC (.str "word")) (dCons (dC (.str "meeting")) (dCons (dC (.str "letter")) (dCons (dC (.str "text")) dNil))))))) (gN 4))
  (sSeq (sIf (dOr (dNot (dTest (isE K a C (.ty "ValueError")))) (dTest (dOp dNe (dVar 3) (dHot (dVar 4) (gN 5) (dOp dEq (dVar 1) (dVar 5)) [5])))) (sRet (dC (.bl false))) sNext)
  (sRet (dOrV (dOp dNe (dVar 1) (dC (.str "text"))) (fun _ _ _ _ => False)))))))
/-- the except clause's suite -/
def suiteOf : Stmt → List Stmt
  | .Try _ [.ExceptHandler _ _ b _] _ _ _ => b
  | _ => []
abbrev suite : List Stmt := suiteOf ((defBody s_ref).getD 0 (.Pass ⟨0, 0, 0, 0⟩))
section
variable {X : Cx} {g : Addr} {cdg : Value} {s : Shared} {H : Hp} {E : XK} {T : List (Addr × Str)}
theorem bd_suite (Tx : TxR X.K X.mg) {a C : Addr} {oe : Obj} {pn : List (Addr × Obj)} (hC : ExcC X.K C) (hz : L2N.Zn (.ref C) none oe) (hf : ∃ vs, oe.data = .fields vs) (hu : X.A.units + 200 < cLine) :
    PDSs ((gotC X N_ref "_law_refused" (defScope s_ref) g cdg s H E).suite a ((a, oe) :: pn)) (noE, T) suite (b_suite X.K a C Tx.aH Tx.aP Tx.aW Tx.aM Tx.aL Tx.aT) := by
  have nd : (N_ref).Nodup := sc_ref.nd
  have hi := cd_isE (X := gotC X N_ref "_law_refused" (defScope s_ref) g cdg s H E) (a := a) (pn := pn) hC hz.zc hf
  have hu2 : ((gotC X N_ref "_law_refused" (defScope s_ref) g cdg s H E).suite a ((a, oe) :: pn)).A.units + 64 < cLine := by
    show X.A.units + 3 + 64 < cLine
    omega
  have hot := hot_suite (X := gotC X N_ref "_law_refused" (defScope s_ref) g cdg s H E) (a := a) (pn := pn) hz hf
  exact (pdss_cons (pds_asg (pd_lst (pda_cons (pd_blt hi Tx.f_isinstance (by decide +kernel) (pda_cons (pd_var 6 (pv 6)) (pda_cons (pd_glob (by rfl) Tx.cH) pda_nil))) (pda_cons (pd_blt hi Tx.f_isinstance (by decide +kernel) (pda_cons (pd_var 6 (pv 6)) (pda_cons (pd_glob (by rfl) Tx.cP) pda_nil))) (pda_cons (pd_blt hi Tx.f_isinstance (by decide +kernel) (pda_cons (pd_var 6 (pv 6)) (pda_cons (pd_glob (by rfl) Tx.cW) pda_nil))) (pda_cons (pd_blt hi Tx.f_isinstance (by decide +kernel) (pda_cons (pd_var 6 (pv 6)) (pda_cons (pd_glob (by rfl) Tx.cM) pda_nil))) pda_nil))))) (pdg_name (i := 3) nd rfl (Or.inl rfl)))
    (pdss_cons (pds_asg (pd_bin od_add (pd_var 3 (pv 3)) (pd_lst (pda_cons (pd_blt hi Tx.f_isinstance (by decide +kernel) (pda_cons (pd_var 6 (pv 6)) (pda_cons (pd_glob (by rfl) Tx.cL) pda_nil))) (pda_cons (pd_blt hi Tx.f_isinstance (by decide +kernel) (pda_cons (pd_var 6 (pv 6)) (pda_cons (pd_glob (by rfl) Tx.cT) pda_nil))) pda_nil)))) (pdg_name (i := 3) nd rfl (Or.inl rfl)))
    (pdss_cons (pds_asg (pd_lst (pda_cons pd_str (pda_cons pd_str (pda_cons pd_str (pda_cons pd_str (pda_cons pd_str (pda_cons pd_str pda_nil))))))) (pdg_name (i := 4) nd rfl (Or.inl rfl)))
    (pdss_cons (pds_if (PDW.pdt (pdw_or (pdt_not (pdt_val (pd_blt hi Tx.f_isinstance (by decide +kernel) (pda_cons (pd_var 6 (pv 6)) (pda_cons (pd_ty Tx.f_ValueError (by decide +kernel)) pda_nil))))) (pdw_or1 (pdt_cp (od_ne hu2) (pd_var 3 (pv 3)) (pd_hot (own := [("_law_one", 5)]) hot nd (pd_var 4 (pv 4)) (blkOk_by (own := [("_law_one", 5)]) (N := N_ref) (sc := defScope s_ref) (by decide +kernel)) (blk_name (i := 5) (by decide) (fun _ _ _ _ _ => pg_name (i := 5) nd rfl (by first | exact Or.inl rfl | exact Or.inr rfl)) (fun _ _ _ _ _ => pdts_nil) (fun _ _ _ _ _ => pd_cp (od_eq hu2) (pd_var 1 (pv 1)) (pd_var 5 (pv 5)))))))))
      (pdss_one (pds_ret pd_bl)) pdss_nil)
    (pdss_one (pds_ret (pd_or (pd_cp (od_ne hu2) (pd_var 1 (pv 1)) pd_str) (pd_one pd_never))))))))
end
end K16
/-! ### k16: _law_refused answers True of a lambda that raises what is asked -/
namespace K16
open PySem PySem.Spec PyProof.Rows L2 Cc
local macro_rules | `(tactic| walk_at "rd") => `(tactic| try simp only [sSeq, sIf, sAsg, sRet, sRetN, sDrop, sNext, gN, gT, gsCons, gsNil, gsNames, D.tl, dTest, dAnd, dOr, dNot, dAndV, dOrV, dNotV, dIf, dOp, dUn, dVar, dC, dCons, dNil, dCB, dCall, dTup, dLst, blD_bl, dEq_int, dNe_int, dEq_str, dLt, dLe, dGt, dGe, dMod, dFdiv, dIsN, dNotN, D.isN, dAbs, List.getElem?_cons_zero, List.getElem?_cons_succ, List.set_cons_zero, List.set_cons_succ, List.length_cons, List.length_nil, decide_eq_true_eq, if_true, if_false, Bool.false_eq_true, ite_true, ite_false, true_and, and_true])
def wds : List Str := ["hand", "plan", "word", "meeting", "letter", "text"]
/-- C is the class of the word w, among the six -/
structure Kit (K : PySem.W.Frag) (C aH aP aW aM aL aT : Addr) (w : Str) : Prop where
  h : PySem.W.kitOne K (.ref C) (.ref aH) = some (decide (w = "hand"))
  p : PySem.W.kitOne K (.ref C) (.ref aP) = some (decide (w = "plan"))
  ww : PySem.W.kitOne K (.ref C) (.ref aW) = some (decide (w = "word"))
  m : PySem.W.kitOne K (.ref C) (.ref aM) = some (decide (w = "meeting"))
  l : PySem.W.kitOne K (.ref C) (.ref aL) = some (decide (w = "letter"))
  t : PySem.W.kitOne K (.ref C) (.ref aT) = some (decide (w = "text"))
  v : PySem.W.kitOne K (.ref C) (.type "ValueError") = some true
  nt : w ≠ "text"
theorem pure_suite {K : PySem.W.Frag} {a C aH aP aW aM aL aT : Addr} {w : Str} (k : Kit K C aH aP aW aM aL aT w) {G : DH} {Dn : DEnds} {o0 o2 o3 o4 o5 : Option D} (q : ∀ G2, Sub G G2 → Dn.rt (.bl true) G2) :
    b_suite K a C aH aP aW aM aL aT Dn [o0, some (.str w), o2, o3, o4, o5, some (.ref a)] G := by
  unfold b_suite isE
  walk_at "rd"
  refine ⟨rfl, _, _, rfl, k.h, ?_⟩
  refine ⟨rfl, _, _, rfl, k.p, ?_⟩
  refine ⟨rfl, _, _, rfl, k.ww, ?_⟩
  refine ⟨rfl, _, _, rfl, k.m, ?_⟩
  refine ⟨by rw [sizeLine_eq]; decide, fun p1 hp1 => ?_⟩
  refine ⟨rfl, _, _, rfl, k.l, ?_⟩
  refine ⟨rfl, _, _, rfl, k.t, ?_⟩
  refine ⟨by rw [sizeLine_eq]; decide, fun p2 hp2 => ?_⟩
  simp only [dAdd]
  refine ⟨_, _, keep_upd updD_same hp2, updD_same, by rw [sizeLine_eq]; simp, fun p3 hp3 => ?_⟩
  refine ⟨by rw [sizeLine_eq]; decide, fun p4 hp4 => ?_⟩
  refine ⟨rfl, _, _, rfl, k.v, ?_⟩
  walk_at "rd"
  simp only [Bool.not_true, Bool.false_eq_true, if_false, dHot]
  walk_at "rd"
  refine ⟨_, updD_same, fun p5 hp5 => ?_⟩
  have hp45 := keep_upd (c := .lst ([] : List D)) (updD_same (G := updD (updD (updD G p1 (.lst [.bl (decide (w = "hand")), .bl (decide (w = "plan")), .bl (decide (w = "word")), .bl (decide (w = "meeting"))])) p2 (.lst [.bl (decide (w = "letter")), .bl (decide (w = "text"))])) p3 (.lst [.bl (decide (w = "hand")), .bl (decide (w = "plan")), .bl (decide (w = "word")), .bl (decide (w = "meeting")), .bl (decide (w = "letter")), .bl (decide (w = "text"))])) (a := p4) (c := .lst [.str "hand", .str "plan", .str "word", .str "meeting", .str "letter", .str "text"])) hp5
  refine goLc_map (fun z => match z with
    | .str y => some (.bl (decide (w = y)))
    | _ => none) _ (by rw [sizeLine_eq]; decide) (fun acc => keep_upd updD_same hp5) ?_ fun z hz acc N hacc hN => ?_
  · have sG : Sub G (updD (updD (updD (updD (updD G p1 (.lst [.bl (decide (w = "hand")), .bl (decide (w = "plan")), .bl (decide (w = "word")), .bl (decide (w = "meeting"))])) p2 (.lst [.bl (decide (w = "letter")), .bl (decide (w = "text"))])) p3 (.lst [.bl (decide (w = "hand")), .bl (decide (w = "plan")), .bl (decide (w = "word")), .bl (decide (w = "meeting")), .bl (decide (w = "letter")), .bl (decide (w = "text"))])) p4 (.lst [.str "hand", .str "plan", .str "word", .str "meeting", .str "letter", .str "text"])) p5 (.lst [.bl (decide (w = "hand")), .bl (decide (w = "plan")), .bl (decide (w = "word")), .bl (decide (w = "meeting")), .bl (decide (w = "letter")), .bl (decide (w = "text"))])) :=
      ((((Sub.new hp1).trans (Sub.new hp2)).trans (Sub.new hp3)).trans (Sub.new hp4)).trans (Sub.new hp5)
    refine ⟨.list [.bool (decide (w = "hand")), .bool (decide (w = "plan")), .bool (decide (w = "word")), .bool (decide (w = "meeting")), .bool (decide (w = "letter")), .bool (decide (w = "text"))], _, .lst (keep_upd (keep_upd updD_same hp4) hp5) (.cons (.bl _) (.cons (.bl _) (.cons (.bl _) (.cons (.bl _) (.cons (.bl _) (.cons (.bl _) .nil)))))), .lst updD_same (.cons (.bl _) (.cons (.bl _) (.cons (.bl _) (.cons (.bl _) (.cons (.bl _) (.cons (.bl _) .nil)))))), by simp [SeqAt.shaped, PyData.canLay0, PyData.canLayAll0, PyData.depth, PyData.depthAll], by simp [SeqAt.shaped, PyData.canLay0, PyData.canLayAll0, PyData.depth, PyData.depthAll], ?_⟩
    rw [SeqAt.eqv_refl _ (by simp [PyData.canLay0, PyData.canLayAll0])]
    simp only [Bool.not_true, blD_bl]
    walk_at "rd"
    have en : dNe (.str w) (.str "text") = fun G R => R (.bl (!decide (w = "text"))) G := rfl
    have e1 : (!decide (w = "text")) = true := by rw [decide_eq_false k.nt]; rfl
    rw [en]
    dsimp only
    rw [e1, blD_bl, if_pos rfl]
    exact q _ (((((Sub.new hp1).trans (Sub.new hp2)).trans (Sub.new hp3)).trans (Sub.new hp4)).trans (Sub.new hp5))
  · simp only [wipeD]
    walk_at "rd"
    simp only [List.mem_cons, List.not_mem_nil, or_false] at hz
    rcases hz with rfl | rfl | rfl | rfl | rfl | rfl <;>
    · simp only [dYes]
      walk_at "rd"
      exact ⟨acc, updD_same, hacc, by rw [updD_updD]; exact hN⟩
theorem given_ref {X : Cx} {T : List (Addr × Str)} (Tx : TxR X.K X.mg) {g C : Addr} {cdg : Value} {k : Nat} {q w : Str} (hC : ExcC X.K C) (kit : Kit X.K C Tx.aH Tx.aP Tx.aW Tx.aM Tx.aL Tx.aT w) (hx : PySem.W.exmOne X.K (.ref C) (.ref Tx.aE) = some true) (hu : X.A.units + 200 < cLine) :
    Given X N_ref ["_law_work", "_law_word", "_law_value"] "_law_refused" "_law_work" (defScope s_ref) g cdg (defBody s_ref) k q (spRef (X.K, T) w C) := by
  intro f c' s H Q E vs tl hact hr hc ⟨⟨v, ev⟩, ht⟩
  subst ev
  have nd : (N_ref).Nodup := sc_ref.nd
  have tk : L2N.Takes (gotC X N_ref "_law_refused" (defScope s_ref) g cdg s H E) (fun cls d _ H => E cls d H) := L2N.takes_of rfl rfl rfl rfl
  refine ⟨_, pss_cons (L2N.ps_try_as (i := 6) (c := .ref Tx.aE) (Wout := fun cls d _ H => E cls d H) (tb := fun W => tDrop (ActT f c' q W tl))
      (ts := fun a cls d D σ H => ∃ C, cls = .ref C ∧ d = none ∧ ExcC X.K C ∧ upS (X.K, T) noE (b_suite X.K a C Tx.aH Tx.aP Tx.aW Tx.aM Tx.aL Tx.aT) D σ H)
      rfl rfl nd rfl rfl ⟨by rfl, by decide, .inl Tx.cE⟩ tk (fun W pn xe tkW _ => pss_one (ps_expr (hact W pn xe _ _ tkW))) fun a oe cls d pn hz hf => ?_) (pss_one (ps_ret pe_bl)), ?_⟩
  · refine ⟨fun pins s1 σ1 H1 D1 I1 ⟨C1, e1, e2, hC1, h1⟩ => ?_⟩
    subst e1 e2
    exact (bd_suite (T := T) Tx hC1 hz hf hu).ps.run pins s1 σ1 H1 D1 I1 h1
  · refine (show ActT f c' q _ tl _ H _ from ⟨rfl, hc, (fun cls o H' => cls = .ref C ∧ o = none ∧ ∃ G', HRel (X.K, T) G' H' ∧ ∀ G2 H2, Sub G' G2 → Up H' H2 → HRel (X.K, T) G2 H2 → Q (.bl true) H2), fun cls o H' ⟨e1, e2, G', hG', hq⟩ => ?_, ht _⟩)
    subst e1 e2
    refine ⟨true, hx, fun _ a na => ⟨C, rfl, rfl, hC, ?_⟩, fun z => by cases z⟩
    have sr : SRel (X.K, T) H' ((L2.start N_ref [.ref f, .str w, v]).set 6 (some (.ref a))) [none, some (.str w), none, none, none, none, some (.ref a)] := ⟨rfl, fun i d e => by
      match i, e with
      | 1, e => cases e; exact ⟨_, rfl, .str w⟩
      | 6, e => cases e; exact ⟨_, rfl, .ref a⟩
      | 0, e => cases e
      | 2, e => cases e
      | 3, e => cases e
      | 4, e => cases e
      | 5, e => cases e
      | n + 7, e => simp at e⟩
    refine ⟨_, G', { nx := fun _ _ => False, rt := fun d G2 => d = .bl true ∧ Sub G' G2 }, sr, hG', pure_suite kit (fun G2 s2 => ⟨rfl, s2⟩), fun _ _ _ _ _ _ _ z => z.elim, fun v2 H2 d G2 u2 h2 r2 ⟨e, s2⟩ => ?_, fun _ _ _ _ _ _ _ z => z.elim, fun _ _ _ _ _ _ _ z => z.elim, fun _ _ _ _ _ _ z => z.elim⟩
    subst e
    cases r2
    exact hq G2 H2 s2 u2 h2
end K16
/-! ### k16: each def keeps its reading -/
namespace K16
open PySem PySem.Spec PyProof.Rows L2 Cc K15
structure Txt (K : PySem.W.Frag) (mg : Str → Option Value) where
  a_BadHand : Addr
  a_BadLetter : Addr
  a_BadPlan : Addr
  a_BadText : Addr
  a_BadWord : Addr
  a_CallError : Addr
  a_NoMeeting : Addr
  e_BadPlan : ErrC K mg "BadPlan" a_BadPlan
  c_FREE : GloC K mg "FREE" (.tup [(.str "no"), (.str "passed")])
  c_MOST_BEGIN : GloC K mg "MOST_BEGIN" (.int 999)
  c_MOST_LONG : GloC K mg "MOST_LONG" (.int 50)
  f_abs : mg "abs" = none
  f_all : mg "all" = none
  f_bool : mg "bool" = none
  f_int : mg "int" = none
  f_isinstance : mg "isinstance" = none
  f_len : mg "len" = none
  f_list : mg "list" = none
  f_max : mg "max" = none
  f_range : mg "range" = none
  f_sorted : mg "sorted" = none
  f_str : mg "str" = none
  f_tuple : mg "tuple" = none
  r_E : mg "CallError" = some (.ref a_CallError)
  r_BadHand : GloC K mg "BadHand" (.ref a_BadHand)
  r_BadPlan : GloC K mg "BadPlan" (.ref a_BadPlan)
  r_BadWord : GloC K mg "BadWord" (.ref a_BadWord)
  r_NoMeeting : GloC K mg "NoMeeting" (.ref a_NoMeeting)
  r_BadLetter : GloC K mg "BadLetter" (.ref a_BadLetter)
  r_BadText : GloC K mg "BadText" (.ref a_BadText)
  f_ValueError : mg "ValueError" = none
  x_plan : ExcC K a_BadPlan
  k_plan : Kit K a_BadPlan a_BadHand a_BadPlan a_BadWord a_NoMeeting a_BadLetter a_BadText "plan"
  m_plan : PySem.W.exmOne K (.ref a_BadPlan) (.ref a_CallError) = some true
abbrev Txt.r {K : PySem.W.Frag} {mg : Str → Option Value} (Tx : Txt K mg) : TxR K mg := ⟨Tx.a_CallError, Tx.a_BadHand, Tx.a_BadPlan, Tx.a_BadWord, Tx.a_NoMeeting, Tx.a_BadLetter, Tx.a_BadText, Tx.r_E, Tx.r_BadHand, Tx.r_BadPlan, Tx.r_BadWord, Tx.r_NoMeeting, Tx.r_BadLetter, Tx.r_BadText, Tx.f_isinstance, Tx.f_ValueError⟩
theorem ref_plan {X : Cx} {T : List (Addr × Str)} (Tx : Txt X.K X.mg) {g : Addr} {cdg : Value} {k : Nat} {q : Str} (hu : X.A.units + 200 < cLine) : Given X N_ref ["_law_work", "_law_word", "_law_value"] "_law_refused" "_law_work" (defScope s_ref) g cdg (defBody s_ref) k q (spRef (X.K, T) "plan" Tx.a_BadPlan) := given_ref Tx.r Tx.x_plan Tx.k_plan Tx.m_plan hu
abbrev s_is_between : Stmt := top 11
theorem sc_is_between : FnScope Pl.N_is_between ["part", "low", "high"] (defScope s_is_between) := ⟨rfl, rfl, rfl, by decide +kernel, rfl, by decide +kernel, by decide +kernel⟩
theorem bd_is_between {P : Program} {w : World} {K : PySem.W.Frag} {TT : List (Addr × Str)} {cv : Value → Prop} {mg : Str → Option Value} {base : Heap} (Tx : Txt K mg) : BodyD P w K TT cv mg base Pl.N_is_between "is_between" (defScope s_is_between) (defBody s_is_between) 0 Pl.b_is_between := by
  intro f cdv A outer s H E hcv hr
  have nd : (Pl.N_is_between).Nodup := sc_is_between.nd
  exact (pdss_one (pds_ret (pd_and (pd_blt cd_isi Tx.f_isinstance (by decide +kernel) (pda_cons (pd_var 0 (pv 0)) (pda_cons (pd_ty Tx.f_int (by decide +kernel)) pda_nil))) (pd_and (pd_not (pd_blt cd_isi Tx.f_isinstance (by decide +kernel) (pda_cons (pd_var 0 (pv 0)) (pda_cons (pd_ty Tx.f_bool (by decide +kernel)) pda_nil)))) (pd_one (pd_cp2 od_le od_le (pd_var 1 (pv 1)) (pd_var 0 (pv 0)) (pd_var 2 (pv 2))))))))
abbrev s_times_of : Stmt := top 14
theorem sc_times_of : FnScope N_times_of ["book", "me"] (defScope s_times_of) := ⟨rfl, rfl, rfl, by decide +kernel, rfl, by decide +kernel, by decide +kernel⟩
theorem bd_times_of {P : Program} {w : World} {K : PySem.W.Frag} {TT : List (Addr × Str)} {cv : Value → Prop} {mg : Str → Option Value} {base : Heap} (Tx : Txt K mg) : BodyD P w K TT cv mg base N_times_of "times_of" (defScope s_times_of) (defBody s_times_of) 0 b_times_of := by
  intro f cdv A outer s H E hcv hr
  have nd : (N_times_of).Nodup := sc_times_of.nd
  exact (pdss_cons (pds_asg (pd_lst pda_nil) (pdg_name (i := 2) nd rfl (by first | exact Or.inl rfl | exact Or.inr rfl)))
  (pdss_cons (pds_for poD rfl (pdi_seq (pd_var 0 (pv 0))) (pdg_tup rfl (pdgs_cons (pdg_name (i := 3) nd rfl (by first | exact Or.inl rfl | exact Or.inr rfl)) (pdgs_cons (pdg_name (i := 4) nd rfl (by first | exact Or.inl rfl | exact Or.inr rfl)) (pdgs_cons (pdg_name (i := 5) nd rfl (by first | exact Or.inl rfl | exact Or.inr rfl)) (pdgs_cons (pdg_name (i := 6) nd rfl (by first | exact Or.inl rfl | exact Or.inr rfl)) (pdgs_cons (pdg_name (i := 7) nd rfl (by first | exact Or.inl rfl | exact Or.inr rfl)) (pdgs_cons (pdg_name (i := 8) nd rfl (by first | exact Or.inl rfl | exact Or.inr rfl)) (pdgs_cons (pdg_name (i := 9) nd rfl (by first | exact Or.inl rfl | exact Or.inr rfl)) pdgs_nil)))))))) (pdss_cons (pds_asg (pd_lcF (own := [("hand", 11), ("by", 12), ("words", 10)]) rfl nd (pdi_seq (pd_var 9 (pv 9))) (blkOk_by (own := [("hand", 11), ("by", 12), ("words", 10)]) (N := N_times_of) (sc := defScope s_times_of) (by decide +kernel)) (blk_tup (is := [11, 12, 10]) (by decide) (fun _ _ _ _ _ => pg_tup rfl (pgs_cons (pg_name (i := 11) nd rfl (by first | exact Or.inl rfl | exact Or.inr rfl)) (pgs_cons (pg_name (i := 12) nd rfl (by first | exact Or.inl rfl | exact Or.inr rfl)) (pgs_cons (pg_name (i := 10) nd rfl (by first | exact Or.inl rfl | exact Or.inr rfl)) pgs_nil)))) (fun _ _ _ _ _ => (pdts_one (pdt_cp (od_eq hr.units) (pd_var 11 (pv 11)) (pd_var 1 (pv 1))))) (fun _ _ _ _ _ => (pd_var 10 (pv 10))))) (pdg_name (i := 10) nd rfl (by first | exact Or.inl rfl | exact Or.inr rfl)))
  (pdss_one (pds_for poD rfl (pdi_seq (pd_var 8 (pv 8))) (pdg_tup rfl (pdgs_cons (pdg_name (i := 13) nd rfl (by first | exact Or.inl rfl | exact Or.inr rfl)) (pdgs_cons (pdg_name (i := 14) nd rfl (by first | exact Or.inl rfl | exact Or.inr rfl)) (pdgs_cons (pdg_name (i := 15) nd rfl (by first | exact Or.inl rfl | exact Or.inr rfl)) pdgs_nil)))) (pdss_cons (pds_asg (pd_and (pd_cp (od_ne hr.units) (pd_var 10 (pv 10)) (pd_lstF pda_nil)) (pd_one (pd_cp (od_in (hu_of hr)) (pd_sub (ixd (hu_of hr)) (pd_sub (ixd (hu_of hr)) (pd_var 10 (pv 10)) pd_int) (pd_var 13 (pv 13))) (pd_glob (by rfl) Tx.c_FREE)))) (pdg_name (i := 16) nd rfl (by first | exact Or.inl rfl | exact Or.inr rfl)))
  (pdss_one (pds_if (PDW.pdt (pdw_and (pdt_cp od_notN (pd_var 14 (pv 14)) pd_non) (pdw_and1 (pdt_not (pdt_val (pd_var 16 (pv 16))))))) (pdss_one (pds_expr (pd_bm PySem.F.plainAttrs_list PySem.F.slot_list_append PySem.F.type_list_append md_append (pd_var 2 (pv 2)) (pda_cons (pd_tup (pda_cons (pd_var 14 (pv 14)) (pda_cons (pd_bin od_addF (pd_var 14 (pv 14)) (pd_var 7 (pv 7))) (pda_cons (pd_var 3 (pv 3)) (pda_cons (pd_var 4 (pv 4)) (pda_cons (pd_var 13 (pv 13)) pda_nil)))))) pda_nil)))) pdss_nil)))))))
  (pdss_one (pds_frz 2 (pds_ret (pd_blt (cd_sortedF hr.units) Tx.f_sorted (by decide +kernel) (pda_cons (pd_var 2 (pv 2)) pda_nil)))))))
abbrev s_free : Stmt := top 15
theorem sc_free : FnScope N_free ["books", "low", "long"] (defScope s_free) := ⟨rfl, rfl, rfl, by decide +kernel, rfl, by decide +kernel, by decide +kernel⟩
theorem bd_free {P : Program} {w : World} {K : PySem.W.Frag} {TT : List (Addr × Str)} {cv : Value → Prop} {mg : Str → Option Value} {base : Heap} (Tx : Txt K mg) (F_is_between : Fn P w (K, TT) mg base "is_between" 1 ["part", "low", "high"] Pl.sd_is_between) (F_times_of : Fn P w (K, TT) mg base "times_of" 1 ["book", "me"] sd_times_of) : BodyD P w K TT cv mg base N_free "free" (defScope s_free) (defBody s_free) 1 (b_free Tx.a_BadPlan) := by
  intro f cdv A outer s H E hcv hr
  have nd : (N_free).Nodup := sc_free.nd
  exact (pdss_cons (pds_if (PDW.pdt (pdw_or (pdt_not (pdt_val (pd_fn F_is_between hr psD (pda_cons (pd_var 1 (pv 1)) (pda_cons pd_int (pda_cons (pd_glob (by rfl) Tx.c_MOST_BEGIN) pda_nil)))))) (pdw_or1 (pdt_not (pdt_val (pd_fn F_is_between hr psD (pda_cons (pd_var 2 (pv 2)) (pda_cons pd_int (pda_cons (pd_glob (by rfl) Tx.c_MOST_LONG) pda_nil))))))))) (pdss_one (pds_raise Tx.e_BadPlan tkD)) pdss_nil)
  (pdss_cons (pds_asg (pd_lst pda_nil) (pdg_name (i := 3) nd rfl (by first | exact Or.inl rfl | exact Or.inr rfl)))
  (pdss_cons (pds_for poD rfl (pdi_seq (pd_var 0 (pv 0))) (pdg_tup rfl (pdgs_cons (pdg_name (i := 4) nd rfl (by first | exact Or.inl rfl | exact Or.inr rfl)) (pdgs_cons (pdg_name (i := 5) nd rfl (by first | exact Or.inl rfl | exact Or.inr rfl)) pdgs_nil))) (pdss_one (pds_expr (pd_bm PySem.F.plainAttrs_list PySem.F.slot_list_extend PySem.F.type_list_extend md_extendF (pd_var 3 (pv 3)) (pda_cons (pd_fn F_times_of hr psD (pda_cons (pd_var 5 (pv 5)) (pda_cons (pd_var 4 (pv 4)) pda_nil))) pda_nil)))))
  (pdss_cons (pds_asg (pd_var 1 (pv 1)) (pdg_name (i := 6) nd rfl (by first | exact Or.inl rfl | exact Or.inr rfl)))
  (pdss_cons (pds_frz 3 (pds_for poD rfl (pdi_seq (pd_blt (cd_sortedF hr.units) Tx.f_sorted (by decide +kernel) (pda_cons (pd_var 3 (pv 3)) pda_nil))) (pdg_name (i := 7) nd rfl (by first | exact Or.inl rfl | exact Or.inr rfl)) (pdss_one (pds_if (PDW.pdt (pdw_and (pdt_cp od_lt (pd_sub (ixd (hu_of hr)) (pd_var 7 (pv 7)) pd_int) (pd_bin od_addF (pd_var 6 (pv 6)) (pd_var 2 (pv 2)))) (pdw_and1 (pdt_cp od_gt (pd_sub (ixd (hu_of hr)) (pd_var 7 (pv 7)) pd_int) (pd_var 6 (pv 6)))))) (pdss_one (pds_asg (pd_sub (ixd (hu_of hr)) (pd_var 7 (pv 7)) pd_int) (pdg_name (i := 6) nd rfl (by first | exact Or.inl rfl | exact Or.inr rfl)))) pdss_nil))))
  (pdss_one (pds_ret (pd_var 6 (pv 6)))))))))
abbrev s__law_dice : Stmt := top 17
theorem sc__law_dice : FnScope N__law_dice ["_law_script", "_law_k"] (defScope s__law_dice) := ⟨rfl, rfl, rfl, by decide +kernel, rfl, by decide +kernel, by decide +kernel⟩
theorem bd__law_dice {P : Program} {w : World} {K : PySem.W.Frag} {TT : List (Addr × Str)} {cv : Value → Prop} {mg : Str → Option Value} {base : Heap} (Tx : Txt K mg) : BodyD P w K TT cv mg base N__law_dice "_law_dice" (defScope s__law_dice) (defBody s__law_dice) 0 b__law_dice := by
  intro f cdv A outer s H E hcv hr
  have nd : (N__law_dice).Nodup := sc__law_dice.nd
  exact (pdss_cons (pds_asg (pd_var 1 (pv 1)) (pdg_name (i := 2) nd rfl (by first | exact Or.inl rfl | exact Or.inr rfl)))
  (pdss_cons (pds_for poD rfl (pdi_seq (pd_var 0 (pv 0))) (pdg_name (i := 3) nd rfl (by first | exact Or.inl rfl | exact Or.inr rfl)) (pdss_one (pds_asg (pd_bin od_mod (pd_bin od_add (pd_bin od_mul (pd_var 2 (pv 2)) pd_int) (pd_blt cd_abs Tx.f_abs (by decide +kernel) (pda_cons (pd_var 3 (pv 3)) pda_nil))) pd_int) (pdg_name (i := 2) nd rfl (by first | exact Or.inl rfl | exact Or.inr rfl)))))
  (pdss_one (pds_ret (pd_bin od_add (pd_lst (pda_cons (pd_var 2 (pv 2)) (pda_cons pd_int pda_nil))) (pd_lc (own := [("_law_cell", 3)]) rfl nd (pdi_seq (pd_var 0 (pv 0))) (blkOk_by (own := [("_law_cell", 3)]) (N := N__law_dice) (sc := defScope s__law_dice) (by decide +kernel)) (blk_name (i := 3) (by decide) (fun _ _ _ _ _ => pg_name (i := 3) nd rfl (by first | exact Or.inl rfl | exact Or.inr rfl)) (fun _ _ _ _ _ => (pdts_one (pdt_cp od_ge (pd_var 3 (pv 3)) (pd_bin od_pow pd_int pd_int)))) (fun _ _ _ _ _ => (pd_var 3 (pv 3))))))))))
abbrev s__law_off : Stmt := top 18
theorem sc__law_off : FnScope N__law_off ["_law_d", "_law_most"] (defScope s__law_off) := ⟨rfl, rfl, rfl, by decide +kernel, rfl, by decide +kernel, by decide +kernel⟩
theorem bd__law_off {P : Program} {w : World} {K : PySem.W.Frag} {TT : List (Addr × Str)} {cv : Value → Prop} {mg : Str → Option Value} {base : Heap} (Tx : Txt K mg) : BodyD P w K TT cv mg base N__law_off "_law_off" (defScope s__law_off) (defBody s__law_off) 0 b__law_off := by
  intro f cdv A outer s H E hcv hr
  have nd : (N__law_off).Nodup := sc__law_off.nd
  exact (pdss_cons (pds_if (PDW.pdt (pdw_and (pdt_cp (od_eq hr.units) (pd_sub (ixd (hu_of hr)) (pd_var 0 (pv 0)) pd_int) pd_int) (pdw_and1 (pdt_cp od_gt (pd_blt cd_len Tx.f_len (by decide +kernel) (pda_cons (pd_var 0 (pv 0)) pda_nil)) pd_int)))) (pdss_one (pds_asg (pd_bm PySem.F.plainAttrs_list PySem.F.slot_list_pop PySem.F.type_list_pop md_popAt (pd_var 0 (pv 0)) (pda_cons pd_int pda_nil)) (pdg_sub set_listD.1 set_listD.2 (pd_var 0 (pv 0)) pd_int))) pdss_nil)
  (pdss_cons (pds_if (pdt_cp od_gt (pd_sub (ixd (hu_of hr)) (pd_var 0 (pv 0)) pd_int) pd_int) (pdss_cons (pds_asg (pd_bin od_mod (pd_sub (ixd (hu_of hr)) (pd_var 0 (pv 0)) pd_int) (pd_var 1 (pv 1))) (pdg_name (i := 2) nd rfl (by first | exact Or.inl rfl | exact Or.inr rfl)))
  (pdss_cons (pds_asg (pd_bin od_fdiv (pd_sub (ixd (hu_of hr)) (pd_var 0 (pv 0)) pd_int) (pd_var 1 (pv 1))) (pdg_sub set_listD.1 set_listD.2 (pd_var 0 (pv 0)) pd_int))
  (pdss_one (pds_ret (pd_var 2 (pv 2)))))) pdss_nil)
  (pdss_cons (pds_asg (pd_bin od_mod (pd_bin od_add (pd_bin od_mul (pd_sub (ixd (hu_of hr)) (pd_var 0 (pv 0)) pd_int) pd_int) pd_int) pd_int) (pdg_sub set_listD.1 set_listD.2 (pd_var 0 (pv 0)) pd_int))
  (pdss_one (pds_ret (pd_bin od_mod (pd_bin od_fdiv (pd_sub (ixd (hu_of hr)) (pd_var 0 (pv 0)) pd_int) pd_int) (pd_var 1 (pv 1))))))))
abbrev s__law_alike : Stmt := top 19
theorem sc__law_alike : FnScope N__law_alike ["_law_found", "_law_due"] (defScope s__law_alike) := ⟨rfl, rfl, rfl, by decide +kernel, rfl, by decide +kernel, by decide +kernel⟩
theorem bd__law_alike {P : Program} {w : World} {K : PySem.W.Frag} {TT : List (Addr × Str)} {cv : Value → Prop} {mg : Str → Option Value} {base : Heap} (Tx : Txt K mg) {k : Nat} (F__law_alike : Fn P w (K, TT) mg base "_law_alike" k ["_law_found", "_law_due"] (sd__law_alike k)) : BodyD P w K TT cv mg base N__law_alike "_law_alike" (defScope s__law_alike) (defBody s__law_alike) k (b__law_alike k) := by
  intro f cdv A outer s H E hcv hr
  have nd : (N__law_alike).Nodup := sc__law_alike.nd
  exact (pdss_cons (pds_if (pdt_cp od_isN (pd_var 1 (pv 1)) pd_non) (pdss_one (pds_ret (pd_cp od_isN (pd_var 0 (pv 0)) pd_non))) pdss_nil)
  (pdss_cons (pds_if (pdt_val (pd_blt cd_isi Tx.f_isinstance (by decide +kernel) (pda_cons (pd_var 1 (pv 1)) (pda_cons (pd_ty Tx.f_bool (by decide +kernel)) pda_nil)))) (pdss_one (pds_ret (pd_and (pd_blt cd_isi Tx.f_isinstance (by decide +kernel) (pda_cons (pd_var 0 (pv 0)) (pda_cons (pd_ty Tx.f_bool (by decide +kernel)) pda_nil))) (pd_one (pd_cp (od_eq hr.units) (pd_var 0 (pv 0)) (pd_var 1 (pv 1))))))) pdss_nil)
  (pdss_cons (pds_if (pdt_val (pd_blt cd_isi Tx.f_isinstance (by decide +kernel) (pda_cons (pd_var 1 (pv 1)) (pda_cons (pd_ty Tx.f_int (by decide +kernel)) pda_nil)))) (pdss_one (pds_ret (pd_and (pd_blt cd_isi Tx.f_isinstance (by decide +kernel) (pda_cons (pd_var 0 (pv 0)) (pda_cons (pd_ty Tx.f_int (by decide +kernel)) pda_nil))) (pd_and (pd_not (pd_blt cd_isi Tx.f_isinstance (by decide +kernel) (pda_cons (pd_var 0 (pv 0)) (pda_cons (pd_ty Tx.f_bool (by decide +kernel)) pda_nil)))) (pd_one (pd_cp (od_eq hr.units) (pd_var 0 (pv 0)) (pd_var 1 (pv 1)))))))) pdss_nil)
  (pdss_cons (pds_if (pdt_val (pd_blt cd_isi Tx.f_isinstance (by decide +kernel) (pda_cons (pd_var 1 (pv 1)) (pda_cons (pd_ty Tx.f_str (by decide +kernel)) pda_nil)))) (pdss_one (pds_ret (pd_and (pd_blt cd_isi Tx.f_isinstance (by decide +kernel) (pda_cons (pd_var 0 (pv 0)) (pda_cons (pd_ty Tx.f_str (by decide +kernel)) pda_nil))) (pd_one (pd_cp (od_eq hr.units) (pd_var 0 (pv 0)) (pd_var 1 (pv 1))))))) pdss_nil)
  (pdss_cons (pds_if (PDW.pdt (pdw_or (pdt_cp (od_ne hr.units) (pd_blt cd_isi Tx.f_isinstance (by decide +kernel) (pda_cons (pd_var 1 (pv 1)) (pda_cons (pd_ty Tx.f_tuple (by decide +kernel)) pda_nil))) (pd_blt cd_isi Tx.f_isinstance (by decide +kernel) (pda_cons (pd_var 0 (pv 0)) (pda_cons (pd_ty Tx.f_tuple (by decide +kernel)) pda_nil)))) (pdw_or1 (pdt_cp (od_ne hr.units) (pd_blt cd_isi Tx.f_isinstance (by decide +kernel) (pda_cons (pd_var 1 (pv 1)) (pda_cons (pd_ty Tx.f_list (by decide +kernel)) pda_nil))) (pd_blt cd_isi Tx.f_isinstance (by decide +kernel) (pda_cons (pd_var 0 (pv 0)) (pda_cons (pd_ty Tx.f_list (by decide +kernel)) pda_nil))))))) (pdss_one (pds_ret pd_bl)) pdss_nil)
  (pdss_cons (pds_if (pdt_cp (od_ne hr.units) (pd_blt cd_len Tx.f_len (by decide +kernel) (pda_cons (pd_var 0 (pv 0)) pda_nil)) (pd_blt cd_len Tx.f_len (by decide +kernel) (pda_cons (pd_var 1 (pv 1)) pda_nil))) (pdss_one (pds_ret pd_bl)) pdss_nil)
  (pdss_one (pds_ret (pd_blt (cd_all rfl) Tx.f_all (by decide +kernel) (pda_cons (pd_lc (own := [("_law_k", 2)]) rfl nd (pdi_range1 rfl Tx.f_range (pd_blt cd_len Tx.f_len (by decide +kernel) (pda_cons (pd_var 1 (pv 1)) pda_nil))) (blkOk_by (own := [("_law_k", 2)]) (N := N__law_alike) (sc := defScope s__law_alike) (by decide +kernel)) (blk_name (i := 2) (by decide) (fun _ _ _ _ _ => pg_name (i := 2) nd rfl (by first | exact Or.inl rfl | exact Or.inr rfl)) (fun _ _ _ _ _ => pdts_nil) (fun _ _ _ _ _ => (pd_fn F__law_alike hr passN (pda_cons (pd_sub (ixd (hu_of hr)) (pd_var 0 (pv 0)) (pd_var 2 (pv 2))) (pda_cons (pd_sub (ixd (hu_of hr)) (pd_var 1 (pv 1)) (pd_var 2 (pv 2))) pda_nil)) (Nat.le_refl _))))) pda_nil))))))))))
abbrev s__law_book : Stmt := top 21
theorem sc__law_book : FnScope N__law_book ["_law_d"] (defScope s__law_book) := ⟨rfl, rfl, rfl, by decide +kernel, rfl, by decide +kernel, by decide +kernel⟩
theorem bd__law_book {P : Program} {w : World} {K : PySem.W.Frag} {TT : List (Addr × Str)} {mg : Str → Option Value} {base : Heap} (Tx : Txt K mg) (F__law_off : Fn P w (K, TT) mg base "_law_off" 1 ["_law_d", "_law_most"] sd__law_off) {c PA : Addr} (TB : LamX.TabB base mg c PA) (hmT : (PA, ("_law_book" : Str) ++ ".<locals>." ++ "<lambda>") ∈ TT) (huT : ∀ q ∈ TT, q.1 = PA → q.2 = ("_law_book" : Str) ++ ".<locals>." ++ "<lambda>") : BodyD P w K TT (fun v => v = .ref c) mg base N__law_book "_law_book" (defScope s__law_book) (defBody s__law_book) 2 b__law_book := by
  intro f cdv A outer s H E hcv hr
  have nd : (N__law_book).Nodup := sc__law_book.nd
  have hcode : cdv = .ref c := hcv
  subst hcode
  exact (pdss_cons (pds_asg (pd_lst pda_nil) (pdg_name (i := 1) nd rfl (by first | exact Or.inl rfl | exact Or.inr rfl)))
  (pdss_cons (pds_for poD rfl (pdi_range1 rfl Tx.f_range (pd_fn F__law_off hr psD (pda_cons (pd_var 0 (pv 0)) (pda_cons (pd_sub (ixd (hu_of hr)) (pd_lstF (pda_cons pd_int (pda_cons pd_int (pda_cons pd_int pda_nil)))) (pd_fn F__law_off hr psD (pda_cons (pd_var 0 (pv 0)) (pda_cons pd_int pda_nil)))) pda_nil)))) (pdg_name (i := 2) nd rfl (by first | exact Or.inl rfl | exact Or.inr rfl)) (pdss_cons (pds_asg (pd_fn F__law_off hr psD (pda_cons (pd_var 0 (pv 0)) (pda_cons pd_int pda_nil))) (pdg_name (i := 3) nd rfl (by first | exact Or.inl rfl | exact Or.inr rfl)))
  (pdss_cons (pds_asg (pd_bin od_addF pd_int (pd_fn F__law_off hr psD (pda_cons (pd_var 0 (pv 0)) (pda_cons pd_int pda_nil)))) (pdg_name (i := 4) nd rfl (by first | exact Or.inl rfl | exact Or.inr rfl)))
  (pdss_cons (pds_asg (pd_lst pda_nil) (pdg_name (i := 5) nd rfl (by first | exact Or.inl rfl | exact Or.inr rfl)))
  (pdss_cons (pds_for poD rfl (pdi_range1 rfl Tx.f_range (pd_var 4 (pv 4))) (pdg_name (i := 6) nd rfl (by first | exact Or.inl rfl | exact Or.inr rfl)) (pdss_cons (pds_asg (pd_sub (ixd (hu_of hr)) (pd_lstF (pda_cons (pd_fn F__law_off hr psD (pda_cons (pd_var 0 (pv 0)) (pda_cons pd_int pda_nil))) (pda_cons (pd_fn F__law_off hr psD (pda_cons (pd_var 0 (pv 0)) (pda_cons pd_int pda_nil))) (pda_cons pd_non (pda_cons (pd_fn F__law_off hr psD (pda_cons (pd_var 0 (pv 0)) (pda_cons pd_int pda_nil))) pda_nil))))) (pd_fn F__law_off hr psD (pda_cons (pd_var 0 (pv 0)) (pda_cons pd_int pda_nil)))) (pdg_name (i := 7) nd rfl (by first | exact Or.inl rfl | exact Or.inr rfl)))
  (pdss_one (pds_expr (pd_bm PySem.F.plainAttrs_list PySem.F.slot_list_append PySem.F.type_list_append md_append (pd_var 5 (pv 5)) (pda_cons (pd_tup (pda_cons (pd_var 6 (pv 6)) (pda_cons (pd_var 7 (pv 7)) (pda_cons (pd_fn F__law_off hr psD (pda_cons (pd_var 0 (pv 0)) (pda_cons pd_int pda_nil))) pda_nil)))) pda_nil))))))
  (pdss_cons (pds_asg (pd_lst pda_nil) (pdg_name (i := 8) nd rfl (by first | exact Or.inl rfl | exact Or.inr rfl)))
  (pdss_cons (pds_for poD rfl (pdi_seq (pd_lcF (own := [("_law_one", 10)]) rfl nd (pdi_range1 rfl Tx.f_range pd_int) (blkOk_by (own := [("_law_one", 10)]) (N := N__law_book) (sc := defScope s__law_book) (by decide +kernel)) (blk_name (i := 10) (by decide) (fun _ _ _ _ _ => pg_name (i := 10) nd rfl (by first | exact Or.inl rfl | exact Or.inr rfl)) (fun _ _ _ _ _ => (pdts_one (PDW.pdt (pdw_and (pdt_cp (od_ne hr.units) (pd_var 10 (pv 10)) (pd_var 3 (pv 3))) (pdw_and1 (pdt_cp (od_eq hr.units) (pd_fn F__law_off hr passN (pda_cons (pd_var 0 (pv 0)) (pda_cons pd_int pda_nil))) pd_int)))))) (fun _ _ _ _ _ => (pd_var 10 (pv 10)))))) (pdg_name (i := 9) nd rfl (by first | exact Or.inl rfl | exact Or.inr rfl)) (pdss_cons (pds_setLcF (i := 11) (own := [("_law_k", 6)]) rfl nd rfl rfl (sw_true rfl rfl rfl (by decide +kernel)) (pdi_range1 rfl Tx.f_range (pd_var 4 (pv 4))) (blkOk_by (own := [("_law_k", 6)]) (N := N__law_book) (sc := defScope s__law_book) (by decide +kernel)) (blk_name (i := 6) (by decide) (fun _ _ _ _ _ => pg_name (i := 6) nd rfl (by first | exact Or.inl rfl | exact Or.inr rfl)) (fun _ _ _ _ _ => pdts_nil) (fun _ _ _ _ _ => (pd_sub (ixd (hu_of hr)) (pd_lstF (pda_cons pd_str (pda_cons pd_str (pda_cons pd_str (pda_cons pd_str pda_nil))))) (pd_fn F__law_off hr passN (pda_cons (pd_var 0 (pv 0)) (pda_cons pd_int pda_nil)))))))
  (pdss_cons (pds_if (pdt_cp (od_eq hr.units) (pd_fn F__law_off hr psD (pda_cons (pd_var 0 (pv 0)) (pda_cons pd_int pda_nil))) pd_int) (pdss_one (pds_asg (pd_bin od_mulF (pd_lstF (pda_cons pd_str pda_nil)) (pd_var 4 (pv 4))) (pdg_name (i := 11) nd rfl (by first | exact Or.inl rfl | exact Or.inr rfl)))) pdss_nil)
  (pdss_one (pds_expr (pd_bm PySem.F.plainAttrs_list PySem.F.slot_list_append PySem.F.type_list_append md_append (pd_var 8 (pv 8)) (pda_cons (pd_tup (pda_cons (pd_var 9 (pv 9)) (pda_cons (pd_sub (ixd (hu_of hr)) (pd_lstF (pda_cons pd_non (pda_cons (pd_var 3 (pv 3)) pda_nil))) (pd_btt cd_int Tx.f_int (by decide +kernel) (pda_cons (pd_cp (od_eq hr.units) (pd_fn F__law_off hr psD (pda_cons (pd_var 0 (pv 0)) (pda_cons pd_int pda_nil))) pd_int) pda_nil))) (pda_cons (pd_var 11 (pv 11)) pda_nil)))) pda_nil)))))))
  (pdss_one (pds_frz 5 (pds_frz 8 (pds_expr (pd_bm PySem.F.plainAttrs_list PySem.F.slot_list_append PySem.F.type_list_append md_append (pd_var 1 (pv 1)) (pda_cons (pd_tup (pda_cons (pd_var 3 (pv 3)) (pda_cons (pd_var 2 (pv 2)) (pda_cons (pd_bin od_addF pd_int (pd_fn F__law_off hr psD (pda_cons (pd_var 0 (pv 0)) (pda_cons pd_int pda_nil)))) (pda_cons pd_str (pda_cons (pd_bin od_addF pd_int (pd_fn F__law_off hr psD (pda_cons (pd_var 0 (pv 0)) (pda_cons (pd_sub (ixd (hu_of hr)) (pd_lstF (pda_cons pd_int (pda_cons pd_int pda_nil))) (pd_fn F__law_off hr psD (pda_cons (pd_var 0 (pv 0)) (pda_cons pd_int pda_nil)))) pda_nil)))) (pda_cons (pd_var 5 (pv 5)) (pda_cons (pd_var 8 (pv 8)) pda_nil)))))))) pda_nil)))))))))))))
  (pdss_one (pds_frz 1 (pds_ret (pd_sortGF (j := 0) (x := "_law_row") keyII encII_alike encII_sort encII_depth kII_tl TB rfl hmT huT (lam1_by (by decide +kernel)) rfl (fun _ _ _ _ => rfl) (hr.mono (by decide)) Tx.f_sorted (pd_var 1 (pv 1))))))))
abbrev s__law_times : Stmt := top 22
theorem sc__law_times : FnScope N__law_times ["_law_book_here", "_law_me"] (defScope s__law_times) := ⟨rfl, rfl, rfl, by decide +kernel, rfl, by decide +kernel, by decide +kernel⟩
theorem bd__law_times {P : Program} {w : World} {K : PySem.W.Frag} {TT : List (Addr × Str)} {cv : Value → Prop} {mg : Str → Option Value} {base : Heap} (Tx : Txt K mg) : BodyD P w K TT cv mg base N__law_times "_law_times" (defScope s__law_times) (defBody s__law_times) 0 b__law_times := by
  intro f cdv A outer s H E hcv hr
  have nd : (N__law_times).Nodup := sc__law_times.nd
  exact (pdss_cons (pds_asg (pd_lst pda_nil) (pdg_name (i := 2) nd rfl (by first | exact Or.inl rfl | exact Or.inr rfl)))
  (pdss_cons (pds_for poD rfl (pdi_seq (pd_var 0 (pv 0))) (pdg_tup rfl (pdgs_cons (pdg_name (i := 3) nd rfl (by first | exact Or.inl rfl | exact Or.inr rfl)) (pdgs_cons (pdg_name (i := 4) nd rfl (by first | exact Or.inl rfl | exact Or.inr rfl)) (pdgs_cons (pdg_name (i := 5) nd rfl (by first | exact Or.inl rfl | exact Or.inr rfl)) (pdgs_cons (pdg_name (i := 6) nd rfl (by first | exact Or.inl rfl | exact Or.inr rfl)) (pdgs_cons (pdg_name (i := 7) nd rfl (by first | exact Or.inl rfl | exact Or.inr rfl)) (pdgs_cons (pdg_name (i := 8) nd rfl (by first | exact Or.inl rfl | exact Or.inr rfl)) (pdgs_cons (pdg_name (i := 9) nd rfl (by first | exact Or.inl rfl | exact Or.inr rfl)) pdgs_nil)))))))) (pdss_one (pds_for poD rfl (pdi_seq (pd_var 8 (pv 8))) (pdg_tup rfl (pdgs_cons (pdg_name (i := 10) nd rfl (by first | exact Or.inl rfl | exact Or.inr rfl)) (pdgs_cons (pdg_name (i := 11) nd rfl (by first | exact Or.inl rfl | exact Or.inr rfl)) (pdgs_cons (pdg_name (i := 12) nd rfl (by first | exact Or.inl rfl | exact Or.inr rfl)) pdgs_nil)))) (pdss_cons (pds_asg (pd_lcF (own := [("_law_hand", 14), ("_law_by", 15), ("_law_words", 13)]) rfl nd (pdi_seq (pd_var 9 (pv 9))) (blkOk_by (own := [("_law_hand", 14), ("_law_by", 15), ("_law_words", 13)]) (N := N__law_times) (sc := defScope s__law_times) (by decide +kernel)) (blk_tup (is := [14, 15, 13]) (by decide) (fun _ _ _ _ _ => pg_tup rfl (pgs_cons (pg_name (i := 14) nd rfl (by first | exact Or.inl rfl | exact Or.inr rfl)) (pgs_cons (pg_name (i := 15) nd rfl (by first | exact Or.inl rfl | exact Or.inr rfl)) (pgs_cons (pg_name (i := 13) nd rfl (by first | exact Or.inl rfl | exact Or.inr rfl)) pgs_nil)))) (fun _ _ _ _ _ => (pdts_one (pdt_cp (od_eq hr.units) (pd_var 14 (pv 14)) (pd_var 1 (pv 1))))) (fun _ _ _ _ _ => (pd_sub (ixd (hu_of hr)) (pd_var 13 (pv 13)) (pd_var 10 (pv 10)))))) (pdg_name (i := 13) nd rfl (by first | exact Or.inl rfl | exact Or.inr rfl)))
  (pdss_one (pds_if (PDW.pdt (pdw_and (pdt_cp od_notN (pd_var 11 (pv 11)) pd_non) (pdw_and1 (pdt_cp (od_notInT hr.units) (pd_var 13 (pv 13)) (pd_tup (pda_cons (pd_lstF (pda_cons pd_str pda_nil)) (pda_cons (pd_lstF (pda_cons pd_str pda_nil)) pda_nil))))))) (pdss_one (pds_expr (pd_bm PySem.F.plainAttrs_list PySem.F.slot_list_append PySem.F.type_list_append md_append (pd_var 2 (pv 2)) (pda_cons (pd_tup (pda_cons (pd_var 11 (pv 11)) (pda_cons (pd_bin od_addF (pd_var 11 (pv 11)) (pd_var 7 (pv 7))) (pda_cons (pd_tup (pda_cons (pd_var 3 (pv 3)) (pda_cons (pd_var 4 (pv 4)) (pda_cons (pd_var 10 (pv 10)) pda_nil)))) pda_nil)))) pda_nil)))) pdss_nil))))))
  (pdss_one (pds_frz 2 (pds_ret (pd_var 2 (pv 2)))))))
end K16
/-! ### k16: the law keeps its reading -/
namespace K16
open PySem PySem.Spec PyProof.Rows L2 Cc K15
abbrev s_law : Stmt := top 23
theorem sc_law : FnScope N_law ["_law_script"] (defScope s_law) := ⟨rfl, rfl, rfl, by decide +kernel, rfl, by decide +kernel, by decide +kernel⟩
theorem bd_law {P : Program} {w : World} {K : PySem.W.Frag} {TT : List (Addr × Str)} {mg : Str → Option Value} {base : Heap} (Tx : Txt K mg) (F__law_alike : Fn P w (K, TT) mg base "_law_alike" 6 ["_law_found", "_law_due"] (sd__law_alike 6)) (F__law_book : Fn P w (K, TT) mg base "_law_book" 3 ["_law_d"] sd__law_book) (F__law_dice : Fn P w (K, TT) mg base "_law_dice" 1 ["_law_script", "_law_k"] sd__law_dice) (F__law_off : Fn P w (K, TT) mg base "_law_off" 1 ["_law_d", "_law_most"] sd__law_off) (F__law_times : Fn P w (K, TT) mg base "_law_times" 1 ["_law_book_here", "_law_me"] sd__law_times) (F_free : Fn P w (K, TT) mg base "free" 2 ["books", "low", "long"] (sd_free Tx.a_BadPlan)) {gR : Addr} {fdR : FuncData} (FR : FunD K "_law_refused" "_law_refused" (defArgs s_ref) (defBody s_ref) (defScope s_ref) [] [] gR fdR) (mR : mg "_law_refused" = some (.ref gR)) {c PA : Addr} (TB : LamX.TabB base mg c PA) (hmT : (PA, ("law" : Str) ++ ".<locals>." ++ "<lambda>") ∈ TT) (huT : ∀ q ∈ TT, q.1 = PA → q.2 = ("law" : Str) ++ ".<locals>." ++ "<lambda>") : BodyD P w K TT (fun v => v = .ref c) mg base N_law "law" (defScope s_law) (defBody s_law) 6 (b_law Tx.a_BadPlan) := by
  intro f cdv A outer s H E hcv hr
  have nd : (N_law).Nodup := sc_law.nd
  have hcode : cdv = .ref c := hcv
  subst hcode
  exact (pdss_cons (pds_asg (pd_fn F__law_dice hr psD (pda_cons (pd_var 0 (pv 0)) (pda_cons pd_int pda_nil))) (pdg_name (i := 1) nd rfl (by first | exact Or.inl rfl | exact Or.inr rfl)))
  (pdss_cons (pds_for poD rfl (pdi_range1 rfl Tx.f_range pd_int) (pdg_name (i := 2) nd rfl (by first | exact Or.inl rfl | exact Or.inr rfl)) (pdss_cons (pds_asg (pd_lcF (own := [("_law_k", 4)]) rfl nd (pdi_range1 rfl Tx.f_range (pd_fn F__law_off hr psD (pda_cons (pd_var 1 (pv 1)) (pda_cons (pd_sub (ixd (hu_of hr)) (pd_lstF (pda_cons pd_int (pda_cons pd_int pda_nil))) (pd_fn F__law_off hr psD (pda_cons (pd_var 1 (pv 1)) (pda_cons pd_int pda_nil)))) pda_nil)))) (blkOk_by (own := [("_law_k", 4)]) (N := N_law) (sc := defScope s_law) (by decide +kernel)) (blk_name (i := 4) (by decide) (fun _ _ _ _ _ => pg_name (i := 4) nd rfl (by first | exact Or.inl rfl | exact Or.inr rfl)) (fun _ _ _ _ _ => pdts_nil) (fun _ _ _ _ _ => (pd_tup (pda_cons (pd_fn F__law_off hr passN (pda_cons (pd_var 1 (pv 1)) (pda_cons pd_int pda_nil))) (pda_cons (pd_fn F__law_book hr passN (pda_cons (pd_var 1 (pv 1)) pda_nil)) pda_nil)))))) (pdg_name (i := 3) nd rfl (by first | exact Or.inl rfl | exact Or.inr rfl)))
  (pdss_cons (pds_asg (pd_tup (pda_cons (pd_fn F__law_off hr psD (pda_cons (pd_var 1 (pv 1)) (pda_cons (pd_sub (ixd (hu_of hr)) (pd_lstF (pda_cons pd_int (pda_cons pd_int pda_nil))) (pd_fn F__law_off hr psD (pda_cons (pd_var 1 (pv 1)) (pda_cons pd_int pda_nil)))) pda_nil))) (pda_cons (pd_bin od_addF pd_int (pd_fn F__law_off hr psD (pda_cons (pd_var 1 (pv 1)) (pda_cons (pd_sub (ixd (hu_of hr)) (pd_lstF (pda_cons pd_int (pda_cons pd_int pda_nil))) (pd_fn F__law_off hr psD (pda_cons (pd_var 1 (pv 1)) (pda_cons pd_int pda_nil)))) pda_nil)))) pda_nil))) (pdg_tup rfl (pdgs_cons (pdg_name (i := 5) nd rfl (by first | exact Or.inl rfl | exact Or.inr rfl)) (pdgs_cons (pdg_name (i := 6) nd rfl (by first | exact Or.inl rfl | exact Or.inr rfl)) pdgs_nil))))
  (pdss_cons (pds_asg (pd_lstF pda_nil) (pdg_name (i := 7) nd rfl (by first | exact Or.inl rfl | exact Or.inr rfl)))
  (pdss_cons (pds_for poD rfl (pdi_seq (pd_var 3 (pv 3))) (pdg_tup rfl (pdgs_cons (pdg_name (i := 8) nd rfl (by first | exact Or.inl rfl | exact Or.inr rfl)) (pdgs_cons (pdg_name (i := 9) nd rfl (by first | exact Or.inl rfl | exact Or.inr rfl)) pdgs_nil))) (pdss_one (pds_asg (pd_bin od_addF (pd_var 7 (pv 7)) (pd_fn F__law_times hr psD (pda_cons (pd_var 9 (pv 9)) (pda_cons (pd_var 8 (pv 8)) pda_nil)))) (pdg_name (i := 7) nd rfl (by first | exact Or.inl rfl | exact Or.inr rfl)))))
  (pdss_cons (pds_asg (pd_var 5 (pv 5)) (pdg_name (i := 10) nd rfl (by first | exact Or.inl rfl | exact Or.inr rfl)))
  (pdss_cons (pds_while poD (pdt_cp (od_ne hr.units) (pd_lcF (own := [("_law_time", 11)]) rfl nd (pdi_seq (pd_var 7 (pv 7))) (blkOk_by (own := [("_law_time", 11)]) (N := N_law) (sc := defScope s_law) (by decide +kernel)) (blk_name (i := 11) (by decide) (fun _ _ _ _ _ => pg_name (i := 11) nd rfl (by first | exact Or.inl rfl | exact Or.inr rfl)) (fun _ _ _ _ _ => (pdts_one (PDW.pdt (pdw_and (pdt_cp od_lt (pd_sub (ixd (hu_of hr)) (pd_var 11 (pv 11)) pd_int) (pd_bin od_addF (pd_var 10 (pv 10)) (pd_var 6 (pv 6)))) (pdw_and1 (pdt_cp od_lt (pd_var 10 (pv 10)) (pd_sub (ixd (hu_of hr)) (pd_var 11 (pv 11)) pd_int))))))) (fun _ _ _ _ _ => (pd_var 11 (pv 11))))) (pd_lstF pda_nil)) (pdss_one (pds_asg (pd_bin od_addF (pd_var 10 (pv 10)) pd_int) (pdg_name (i := 10) nd rfl (by first | exact Or.inl rfl | exact Or.inr rfl)))))
  (pdss_cons (pds_setLcF (i := 12) (own := [("_law_me", 8), ("_law_book_here", 9)]) rfl nd rfl rfl (sw_true rfl rfl rfl (by decide +kernel)) (pdi_seq (pd_var 3 (pv 3))) (blkOk_by (own := [("_law_me", 8), ("_law_book_here", 9)]) (N := N_law) (sc := defScope s_law) (by decide +kernel)) (blk_tup (is := [8, 9]) (by decide) (fun _ _ _ _ _ => pg_tup rfl (pgs_cons (pg_name (i := 8) nd rfl (by first | exact Or.inl rfl | exact Or.inr rfl)) (pgs_cons (pg_name (i := 9) nd rfl (by first | exact Or.inl rfl | exact Or.inr rfl)) pgs_nil))) (fun _ _ _ _ _ => pdts_nil) (fun _ _ _ _ _ => (pd_tup (pda_cons (pd_var 8 (pv 8)) (pda_cons (pd_btt cd_listF Tx.f_list (by decide +kernel) (pda_cons (pd_var 9 (pv 9)) pda_nil)) pda_nil))))))
  (pdss_cons (pds_if (PDW.pdt (pdw_or (pdt_not (pdt_val (pd_fn F__law_alike hr psD (pda_cons (pd_fn F_free hr psD (pda_cons (pd_var 3 (pv 3)) (pda_cons (pd_var 5 (pv 5)) (pda_cons (pd_var 6 (pv 6)) pda_nil)))) (pda_cons (pd_var 10 (pv 10)) pda_nil))))) (pdw_or1 (pdt_cp (od_ne hr.units) (pd_var 3 (pv 3)) (pd_var 12 (pv 12)))))) (pdss_one (pds_ret pd_bl)) pdss_nil)
  (pdss_cons (pds_asg (pd_blt (cd_max2 rfl) Tx.f_max (by decide +kernel) (pda_cons pd_int (pda_cons (pd_bin od_sub (pd_fn F__law_off hr psD (pda_cons (pd_var 1 (pv 1)) (pda_cons (pd_bin od_pow pd_int pd_int) pda_nil))) pd_int) pda_nil))) (pdg_name (i := 13) nd rfl (by first | exact Or.inl rfl | exact Or.inr rfl)))
  (pdss_cons (pds_asg (pd_sub (ixd (hu_of hr)) (pd_lstF (pda_cons (pd_tup (pda_cons (pd_bin od_sub (pd_neg pd_int) (pd_var 13 (pv 13))) (pda_cons pd_int pda_nil))) (pda_cons (pd_tup (pda_cons (pd_bin od_addF pd_int (pd_var 13 (pv 13))) (pda_cons pd_int pda_nil))) (pda_cons (pd_tup (pda_cons pd_int (pda_cons pd_int pda_nil))) (pda_cons (pd_tup (pda_cons pd_int (pda_cons (pd_bin od_addF pd_int (pd_var 13 (pv 13))) pda_nil))) pda_nil))))) (pd_fn F__law_off hr psD (pda_cons (pd_var 1 (pv 1)) (pda_cons pd_int pda_nil)))) (pdg_name (i := 14) nd rfl (by first | exact Or.inl rfl | exact Or.inr rfl)))
  (pdss_one (pds_if (pdt_not (pdt_val (pd_refuseF (X := cxOf (L2N.CX P w) P w K mg base N_law "law" (defScope s_law) f (.ref c) A outer s H E) (k := 2) FR mR sc_ref (fun _ _ _ _ _ _ us hl => match us, hl with | [_, _, _], _ => rfl) (fun cdg => ref_plan (X := cxOf (L2N.CX P w) P w K mg base N_law "law" (defScope s_law) f (.ref c) A outer s H E) Tx (Nat.lt_of_le_of_lt (Nat.add_le_add_right (Nat.le_add_right _ _) _) hr.un)) psD TB rfl hmT huT (hr.mono (by decide)) (LamX.lamS_by (sc := defScope s_law) (by decide +kernel)) rfl (fun _ _ _ _ _ => rfl) (fun A1 outer1 s1 H1 E1 f1 c1 hr => (pd_fn F_free hr (psL (X := cxOf (L2N.CX P w) P w K mg base N_law "law" (defScope s_law) f (.ref c) A outer s H E)) (pda_cons (pd_var 3 (pv 3)) (pda_cons (pd_sub (ixd (hu_of hr)) (pd_var 14 (pv 14)) pd_int) (pda_cons (pd_sub (ixd (hu_of hr)) (pd_var 14 (pv 14)) pd_int) pda_nil)))))))) (pdss_one (pds_ret pd_bl)) pdss_nil)))))))))))))
  (pdss_one (pds_ret pd_bl))))
end K16
/-! ### the end: methods, classes, errors -/
namespace Cc
open PySem PySem.Spec PyProof.Rows L2
section
variable {P : Program} {w : World} {K : PySem.W.Frag} {T : List (Addr × Str)} {cv : Value → Prop} {mg : Str → Option Value} {base h : Heap} {N ps : List Str} {x m : Str} {k : Nat} {sb : DSt} {sd : SpD} {fa : List He.Fa} {fn : List He.DefD} {d : He.DefD}
theorem mkMt (X : K.In h) (G : h.Ns mainGlobals mg) (c : He.SaysD fa fn K) (hd : d ∈ fn) (hx : d.at_ = (x, some m)) (h1 : d.dfl = []) (h2 : d.kwd = []) (hg : He.Fa.meth x m ∈ fa) (S : FnScope N ps d.scope) (hcv : cv (.ref (He.codeOf K (x, some m))))
    (len : ∀ ds G R EX, sd ds G R EX → ds.length = ps.length) (B : BodyD P w K T cv mg base N d.qual d.scope d.body k sb) (hp : ∀ ds G R EX, sd ds G R EX → sb (endsD (frg R) EX) (startD N ds) G)
    (hb : ∀ (kV doc pm : Value) (an : Option Addr) (cdv ct : Value) (us : List Value), us.length = ps.length → bindArgs (PySem.W.fnOf d.name d.qual d.params d.body d.scope .none kV doc pm an cdv ct) ⟨us, []⟩ = pure (ps.zip us)) :
    Mt P w (K, T) mg base (He.ga K x) m (k + 1) ps sd := by
  obtain ⟨fd, F, e⟩ := defAt c hd h1 h2
  rw [hx] at F e
  exact ⟨_, fd, okF F S (by rw [e]; exact hcv) len B hp, He.meth_ok (c.facts hg), F.bindsN hb⟩
theorem mkMt0 (X : K.In h) (G : h.Ns mainGlobals mg) (c : He.SaysD fa fn K) (hd : d ∈ fn) (hx : d.at_ = (x, some m)) (h1 : d.dfl = []) (h2 : d.kwd = []) (hg : He.Fa.meth x m ∈ fa) (no : ∀ ds G R EX, ¬ sd ds G R EX)
    (hb : ∀ (kV doc pm : Value) (an : Option Addr) (cdv ct : Value) (us : List Value), us.length = ps.length → bindArgs (PySem.W.fnOf d.name d.qual d.params d.body d.scope .none kV doc pm an cdv ct) ⟨us, []⟩ = pure (ps.zip us)) :
    Mt P w (K, T) mg base (He.ga K x) m k ps sd := by
  obtain ⟨fd, F, e⟩ := defAt c hd h1 h2
  rw [hx] at F e
  exact ⟨_, fd, ⟨fun vs H Q E ⟨ds, G, R, EX, _, _, h, _⟩ => (no _ _ _ _ h).elim, fun A outer s H args us vs Q E _ _ _ _ ⟨ds, G, R, EX, _, _, h, _⟩ => (no _ _ _ _ h).elim⟩, He.meth_ok (c.facts hg), F.bindsN hb⟩
theorem mkMr (X : K.In h) (G : h.Ns mainGlobals mg) (c : He.SaysD fa fn K) (hd : d ∈ fn) (hx : d.at_ = (x, some ("__init__" : Str))) (h1 : d.dfl = []) (h2 : d.kwd = []) (hg : He.Fa.mkr x ∈ fa) (hgl : He.Fa.glo x ∈ fa) (S : FnScope N ps d.scope) (hcv : cv (.ref (He.codeOf K (x, some ("__init__" : Str)))))
    (len : ∀ ds G R EX, sd ds G R EX → ds.length = ps.length) (B : BodyD P w K T cv mg base N d.qual d.scope d.body k sb) (hp : ∀ ds G R EX, sd ds G R EX → sb (endsD (frg R) EX) (startD N ds) G)
    (hb : ∀ (kV doc pm : Value) (an : Option Addr) (cdv ct : Value) (us : List Value), us.length = ps.length → bindArgs (PySem.W.fnOf d.name d.qual d.params d.body d.scope .none kV doc pm an cdv ct) ⟨us, []⟩ = pure (ps.zip us)) :
    Mr P w (K, T) mg base x (He.ga K x) (k + 1) ps sd := by
  obtain ⟨fd, F, e⟩ := defAt c hd h1 h2
  rw [hx] at F e
  exact ⟨_, fd, okF F S (by rw [e]; exact hcv) len B hp, He.mkr_ok (c.facts hg), He.glo_ok X G (c.facts hgl), F.bindsN hb⟩
theorem glo_ref (X : K.In h) (G : h.Ns mainGlobals mg) {x : Str} (c : (He.Fa.glo x).ok K = true) : GloC K mg x (.ref (He.ga K x)) :=
  ⟨.ref _, _, He.glo_ok X G c, rfl, fun _ _ => .ref _⟩
theorem err_at (X : K.In h) (G : h.Ns mainGlobals mg) {x : Str} (c : (He.Fa.exc x).ok K = true) (c2 : (He.Fa.glo x).ok K = true) : ErrC K mg x (He.ga K x) := by
  obtain ⟨h1, h2, h3, h4⟩ := He.exc_ok c
  exact ⟨h1, He.glo_ok X G c2, h2, h3, h4⟩
theorem ref_at (X : K.In h) (G : h.Ns mainGlobals mg) (c : He.SaysD fa fn K) (hd : d ∈ fn) (hx : d.at_ = (x, none)) (h1 : d.dfl = []) (h2 : d.kwd = []) (hg : He.Fa.glo x ∈ fa) : ∃ (g : Addr) (fd : FuncData), FunD K d.name d.qual d.params d.body d.scope [] [] g fd ∧ mg x = some (.ref g) := by
  obtain ⟨fd, F, e⟩ := defAt c hd h1 h2
  rw [hx] at F
  exact ⟨_, fd, F, He.glo_ok X G (c.facts hg)⟩
end
theorem funD_uniq {K : PySem.W.Frag} {x q x2 q2 : Str} {p p2 : Arguments} {b b2 : List Stmt} {s s2 : Scope} {d d2 : List V} {k k2 : List (Str × V)} {f : Addr} {fd fd2 : FuncData} (F : FunD K x q p b s d k f fd) (F2 : FunD K x2 q2 p2 b2 s2 d2 k2 f fd2) : fd = fd2 := by
  obtain ⟨oc, od, _, _, _, _, _, _, _, osl, _, lk, _, _, _⟩ := F.ex
  obtain ⟨oc', od', _, _, _, _, _, _, _, osl', _, lk', _, _, _⟩ := F2.ex
  rw [lk] at lk'
  injection lk' with lk'
  injection lk' with _ _ e _
  injection e
theorem hu_of {TT : List (Addr × Str)} (nd : (TT.map (·.1)).Nodup) {P : Addr} {s : Str} (h : (P, s) ∈ TT) : ∀ q ∈ TT, q.1 = P → q.2 = s := by
  induction TT with
  | nil => cases h
  | cons t ts ih =>
    obtain ⟨n1, n2⟩ := List.nodup_cons.mp nd
    intro q hq e
    rcases List.mem_cons.mp h with h | h
    · rcases List.mem_cons.mp hq with hq | hq
      · rw [hq, ← h]
      · exact absurd (List.mem_map.mpr ⟨q, hq, by rw [e, ← h]⟩) n1
    · rcases List.mem_cons.mp hq with hq | hq
      · exact absurd (List.mem_map.mpr ⟨_, h, by rw [← hq]; exact e.symm⟩) n1
      · exact ih n2 h q hq e
end Cc
namespace K16
open PySem PySem.Spec PyProof.Rows L2 Cc K15
def d_is_between : He.DefD := ⟨("is_between", none), "is_between", "is_between", defArgs s_is_between, defBody s_is_between, defScope s_is_between, [], []⟩
def d_times_of : He.DefD := ⟨("times_of", none), "times_of", "times_of", defArgs s_times_of, defBody s_times_of, defScope s_times_of, [], []⟩
def d_free : He.DefD := ⟨("free", none), "free", "free", defArgs s_free, defBody s_free, defScope s_free, [], []⟩
def d__law_dice : He.DefD := ⟨("_law_dice", none), "_law_dice", "_law_dice", defArgs s__law_dice, defBody s__law_dice, defScope s__law_dice, [], []⟩
def d__law_off : He.DefD := ⟨("_law_off", none), "_law_off", "_law_off", defArgs s__law_off, defBody s__law_off, defScope s__law_off, [], []⟩
def d__law_alike : He.DefD := ⟨("_law_alike", none), "_law_alike", "_law_alike", defArgs s__law_alike, defBody s__law_alike, defScope s__law_alike, [], []⟩
def d__law_book : He.DefD := ⟨("_law_book", none), "_law_book", "_law_book", defArgs s__law_book, defBody s__law_book, defScope s__law_book, [], []⟩
def d__law_times : He.DefD := ⟨("_law_times", none), "_law_times", "_law_times", defArgs s__law_times, defBody s__law_times, defScope s__law_times, [], []⟩
def d_law : He.DefD := ⟨("law", none), "law", "law", defArgs s_law, defBody s_law, defScope s_law, [], []⟩
def d_ref : He.DefD := ⟨("_law_refused", none), "_law_refused", "_law_refused", defArgs s_ref, defBody s_ref, defScope s_ref, [], []⟩
def fns : List He.DefD := [d_is_between, d_times_of, d_free, d__law_dice, d__law_off, d__law_alike, d__law_book, d__law_times, d_law, d_ref]
def fas : List He.Fa := [.glo "is_between", .glo "times_of", .glo "free", .glo "_law_dice", .glo "_law_off", .glo "_law_alike", .glo "_law_book", .glo "_law_times", .glo "law", .glo "_law_refused", .free "ValueError", .free "abs", .free "all", .free "bool", .free "int", .free "isinstance", .free "len", .free "list", .free "max", .free "range", .free "sorted", .free "str", .free "tuple", .exc "BadPlan", .glo "BadPlan", .glo "FREE", .int "MOST_BEGIN" 999, .int "MOST_LONG" 50, .glo "CallError", .glo "BadHand", .glo "BadWord", .glo "NoMeeting", .glo "BadLetter", .glo "BadText", .exm "BadPlan" "CallError" true]
def tfs : List He.Defn := [("_law_book", none), ("law", none)]
def exL (K : PySem.W.Frag) : List Bool := [He.tupB K "FREE" [(.str "no"), (.str "passed")], excCB K (He.ga K "BadPlan"), decide (PySem.W.kitOne K (.ref (He.ga K "BadPlan")) (.ref (He.ga K "BadHand")) = some false), decide (PySem.W.kitOne K (.ref (He.ga K "BadPlan")) (.ref (He.ga K "BadPlan")) = some true), decide (PySem.W.kitOne K (.ref (He.ga K "BadPlan")) (.ref (He.ga K "BadWord")) = some false), decide (PySem.W.kitOne K (.ref (He.ga K "BadPlan")) (.ref (He.ga K "NoMeeting")) = some false), decide (PySem.W.kitOne K (.ref (He.ga K "BadPlan")) (.ref (He.ga K "BadLetter")) = some false), decide (PySem.W.kitOne K (.ref (He.ga K "BadPlan")) (.ref (He.ga K "BadText")) = some false), decide (PySem.W.kitOne K (.ref (He.ga K "BadPlan")) (.type "ValueError") = some true), decide (([(He.cT K ("_law_book", none)).2, (He.cT K ("law", none)).2] : List Addr).Nodup)]
def exB (K : PySem.W.Frag) : Bool := (exL K).all id
abbrev R : PySem.W.OpenRow := PySem.W.OpenLaw.row PySem.Challenge.rw_crosscalls_k16_free_moments
abbrev hk : PySem.W.Hook := He.hookX 5 fas fns [] tfs exB
def ob (s : PySem.W.SharedT) : He.AlX := He.obsX 5 fas fns [] tfs exB (HandSHeadRun.getT s)
theorem ob_eq (s : PySem.W.SharedT) : ob s = hk.obs s.abs := He.obsX_eq (HandSHeadRun.getT_eq s)
theorem run (w : World) : HandSHeadRun.RunEq R (PySem.W.view R.prog [23]) hk ob 20000 ["CallError", "BadHand", "BadPlan", "BadWord", "NoMeeting", "BadLetter", "BadText", "MOST_BEGIN", "MOST_LONG", "is_between", "FREE", "times_of", "free", "_law_dice", "_law_off", "_law_alike", "_law_refused", "_law_book", "_law_times"] w := by
  intro os
  kernel_rfl
end K16
namespace K16
open PySem PySem.Spec PyProof.Rows L2 Cc K15
abbrev TT (K : PySem.W.Frag) : List (Addr × Str) := [((He.cT K ("_law_book", none)).2, ("_law_book" : Str) ++ ".<locals>." ++ "<lambda>"), ((He.cT K ("law", none)).2, ("law" : Str) ++ ".<locals>." ++ "<lambda>")]
theorem exAt {K : PySem.W.Frag} (h : exB K = true) (i : Nat) {b : Bool} (e : (exL K)[i]? = some b) : b = true := List.all_eq_true.mp h b (List.mem_of_getElem? e)
def txt {w : World} {K : PySem.W.Frag} {h : Heap} {mg : Str → Option Value} (X : K.In h) (G : h.Ns mainGlobals mg) (Y : He.SaysX fas fns [] tfs exB w h K) : Txt K mg :=
  have Y1 : ∀ (i : Nat) {b : Bool}, (exL K)[i]? = some b → b = true := fun i {b} e => exAt Y.more i e
  { a_BadHand := He.ga K "BadHand",
    a_BadLetter := He.ga K "BadLetter",
    a_BadPlan := He.ga K "BadPlan",
    a_BadText := He.ga K "BadText",
    a_BadWord := He.ga K "BadWord",
    a_CallError := He.ga K "CallError",
    a_NoMeeting := He.ga K "NoMeeting",
    e_BadPlan := err_at X G (Y.t.d.facts (List.mem_of_getElem? (i := 23) rfl)) (Y.t.d.facts (List.mem_of_getElem? (i := 24) rfl)),
    c_FREE := glo_tup X G [(.str "no"), (.str "passed")] [(.str "no"), (.str "passed")] (Y.t.d.facts (List.mem_of_getElem? (i := 25) rfl)) (Y1 0 rfl) (fun T H => (.cons (.str _) (.cons (.str _) .nil))),
    c_MOST_BEGIN := glo_int X G (Y.t.d.facts (List.mem_of_getElem? (i := 26) rfl)),
    c_MOST_LONG := glo_int X G (Y.t.d.facts (List.mem_of_getElem? (i := 27) rfl)),
    f_ValueError := He.free_ok X G (Y.t.d.facts (List.mem_of_getElem? (i := 10) rfl)),
    f_abs := He.free_ok X G (Y.t.d.facts (List.mem_of_getElem? (i := 11) rfl)),
    f_all := He.free_ok X G (Y.t.d.facts (List.mem_of_getElem? (i := 12) rfl)),
    f_bool := He.free_ok X G (Y.t.d.facts (List.mem_of_getElem? (i := 13) rfl)),
    f_int := He.free_ok X G (Y.t.d.facts (List.mem_of_getElem? (i := 14) rfl)),
    f_isinstance := He.free_ok X G (Y.t.d.facts (List.mem_of_getElem? (i := 15) rfl)),
    f_len := He.free_ok X G (Y.t.d.facts (List.mem_of_getElem? (i := 16) rfl)),
    f_list := He.free_ok X G (Y.t.d.facts (List.mem_of_getElem? (i := 17) rfl)),
    f_max := He.free_ok X G (Y.t.d.facts (List.mem_of_getElem? (i := 18) rfl)),
    f_range := He.free_ok X G (Y.t.d.facts (List.mem_of_getElem? (i := 19) rfl)),
    f_sorted := He.free_ok X G (Y.t.d.facts (List.mem_of_getElem? (i := 20) rfl)),
    f_str := He.free_ok X G (Y.t.d.facts (List.mem_of_getElem? (i := 21) rfl)),
    f_tuple := He.free_ok X G (Y.t.d.facts (List.mem_of_getElem? (i := 22) rfl)),
    r_E := He.glo_ok X G (Y.t.d.facts (List.mem_of_getElem? (i := 28) rfl)),
    r_BadHand := glo_ref X G (Y.t.d.facts (List.mem_of_getElem? (i := 29) rfl)),
    r_BadPlan := glo_ref X G (Y.t.d.facts (List.mem_of_getElem? (i := 24) rfl)),
    r_BadWord := glo_ref X G (Y.t.d.facts (List.mem_of_getElem? (i := 30) rfl)),
    r_NoMeeting := glo_ref X G (Y.t.d.facts (List.mem_of_getElem? (i := 31) rfl)),
    r_BadLetter := glo_ref X G (Y.t.d.facts (List.mem_of_getElem? (i := 32) rfl)),
    r_BadText := glo_ref X G (Y.t.d.facts (List.mem_of_getElem? (i := 33) rfl)),
    x_plan := excC_of (Y1 1 rfl),
    k_plan := ⟨(of_decide_eq_true (Y1 2 rfl)).trans (by decide), (of_decide_eq_true (Y1 3 rfl)).trans (by decide), (of_decide_eq_true (Y1 4 rfl)).trans (by decide), (of_decide_eq_true (Y1 5 rfl)).trans (by decide), (of_decide_eq_true (Y1 6 rfl)).trans (by decide), (of_decide_eq_true (Y1 7 rfl)).trans (by decide), of_decide_eq_true (Y1 8 rfl), by decide⟩,
    m_plan := He.exm_ok (Y.t.d.facts (List.mem_of_getElem? (i := 34) rfl)) }
theorem ends {w : World} {P : Program} {K : PySem.W.Frag} {h base : Heap} {mg : Str → Option Value} (X : K.In h) (G : h.Ns mainGlobals mg) (Y : He.SaysX fas fns [] tfs exB w h K) (TBs : ∀ q ∈ tfs, LamX.TabB base mg (He.cT K q).1 (He.cT K q).2) {fd : FuncData} (Fd : FunD K d_law.name d_law.qual d_law.params d_law.body d_law.scope [] [] (He.ga K "law") fd) : FnOk P w K mg base (L2N.CX P w) 7 (He.ga K "law") fd ["_law_script"] (upF (K, TT K) sdLaw) := by
  let Tx := txt X G Y
  have c := Y.t.d
  have nd : ((TT K).map (·.1)).Nodup := of_decide_eq_true (exAt Y.more 9 rfl)
  obtain ⟨gR, fdR, FR, mR⟩ := ref_at (x := "_law_refused") X G c (d := d_ref) (List.mem_of_getElem? (i := 9) rfl) rfl rfl rfl (List.mem_of_getElem? (i := 9) rfl)
  have F_is_between : Fn P w (K, TT K) mg base "is_between" 1 ["part", "low", "high"] Pl.sd_is_between := mkFn (cv := fun _ => True) X G c (d := d_is_between) (List.mem_of_getElem? (i := 0) rfl) rfl rfl rfl (List.mem_of_getElem? (i := 0) rfl) sc_is_between trivial (by intro ds G R EX h; first | (obtain ⟨_, rfl, _⟩ := h; rfl) | (obtain ⟨_, _, rfl, _⟩ := h; rfl) | (obtain ⟨_, _, _, rfl, _⟩ := h; rfl) | (obtain ⟨_, _, _, _, rfl, _⟩ := h; rfl) | (obtain ⟨_, _, _, _, _, rfl, _⟩ := h; rfl) | (obtain ⟨_, _, _, _, _, _, rfl, _⟩ := h; rfl) | (obtain ⟨rfl, _⟩ := h; rfl)) (bd_is_between Tx ) Pl.pure_is_between (fun _ _ _ _ _ _ us hl => match us, hl with | [_, _, _], _ => rfl)
  have F_times_of : Fn P w (K, TT K) mg base "times_of" 1 ["book", "me"] sd_times_of := mkFn (cv := fun _ => True) X G c (d := d_times_of) (List.mem_of_getElem? (i := 1) rfl) rfl rfl rfl (List.mem_of_getElem? (i := 1) rfl) sc_times_of trivial (by intro ds G R EX h; first | (obtain ⟨_, rfl, _⟩ := h; rfl) | (obtain ⟨_, _, rfl, _⟩ := h; rfl) | (obtain ⟨_, _, _, rfl, _⟩ := h; rfl) | (obtain ⟨_, _, _, _, rfl, _⟩ := h; rfl) | (obtain ⟨_, _, _, _, _, rfl, _⟩ := h; rfl) | (obtain ⟨_, _, _, _, _, _, rfl, _⟩ := h; rfl) | (obtain ⟨rfl, _⟩ := h; rfl)) (bd_times_of Tx ) pure_times_of (fun _ _ _ _ _ _ us hl => match us, hl with | [_, _], _ => rfl)
  have F_free : Fn P w (K, TT K) mg base "free" 2 ["books", "low", "long"] (sd_free Tx.a_BadPlan) := mkFn (cv := fun _ => True) X G c (d := d_free) (List.mem_of_getElem? (i := 2) rfl) rfl rfl rfl (List.mem_of_getElem? (i := 2) rfl) sc_free trivial (by intro ds G R EX h; first | (obtain ⟨_, rfl, _⟩ := h; rfl) | (obtain ⟨_, _, rfl, _⟩ := h; rfl) | (obtain ⟨_, _, _, rfl, _⟩ := h; rfl) | (obtain ⟨_, _, _, _, rfl, _⟩ := h; rfl) | (obtain ⟨_, _, _, _, _, rfl, _⟩ := h; rfl) | (obtain ⟨_, _, _, _, _, _, rfl, _⟩ := h; rfl) | (obtain ⟨rfl, _⟩ := h; rfl)) (bd_free Tx F_is_between F_times_of) (pure_free _) (fun _ _ _ _ _ _ us hl => match us, hl with | [_, _, _], _ => rfl)
  have F__law_dice : Fn P w (K, TT K) mg base "_law_dice" 1 ["_law_script", "_law_k"] sd__law_dice := mkFn (cv := fun _ => True) X G c (d := d__law_dice) (List.mem_of_getElem? (i := 3) rfl) rfl rfl rfl (List.mem_of_getElem? (i := 3) rfl) sc__law_dice trivial len_dice (bd__law_dice Tx ) pure_dice (fun _ _ _ _ _ _ us hl => match us, hl with | [_, _], _ => rfl)
  have F__law_off : Fn P w (K, TT K) mg base "_law_off" 1 ["_law_d", "_law_most"] sd__law_off := mkFn (cv := fun _ => True) X G c (d := d__law_off) (List.mem_of_getElem? (i := 4) rfl) rfl rfl rfl (List.mem_of_getElem? (i := 4) rfl) sc__law_off trivial len_off (bd__law_off Tx ) pure_offF (fun _ _ _ _ _ _ us hl => match us, hl with | [_, _], _ => rfl)
  have A__law_alike : ∀ k, Fn P w (K, TT K) mg base "_law_alike" k ["_law_found", "_law_due"] (sd__law_alike k) := fun k => by
    induction k with
    | zero => exact mkFn0 X G c (d := d__law_alike) (List.mem_of_getElem? (i := 5) rfl) rfl rfl rfl (List.mem_of_getElem? (i := 5) rfl) (fun _ _ _ _ h => h) (fun _ _ _ _ _ _ us hl => match us, hl with | [_, _], _ => rfl)
    | succ k ih => exact mkFn (cv := fun _ => True) X G c (d := d__law_alike) (List.mem_of_getElem? (i := 5) rfl) rfl rfl rfl (List.mem_of_getElem? (i := 5) rfl) sc__law_alike trivial (len_alike k) (bd__law_alike Tx ih) (pure_alike k) (fun _ _ _ _ _ _ us hl => match us, hl with | [_, _], _ => rfl)
  have F__law_alike := A__law_alike 6
  have F__law_book : Fn P w (K, TT K) mg base "_law_book" 3 ["_law_d"] sd__law_book := mkFn (cv := fun v => v = .ref (He.cT K ("_law_book", none)).1) X G c (d := d__law_book) (List.mem_of_getElem? (i := 6) rfl) rfl rfl rfl (List.mem_of_getElem? (i := 6) rfl) sc__law_book rfl (by intro ds G R EX h; first | (obtain ⟨_, rfl, _⟩ := h; rfl) | (obtain ⟨_, _, rfl, _⟩ := h; rfl) | (obtain ⟨_, _, _, rfl, _⟩ := h; rfl) | (obtain ⟨_, _, _, _, rfl, _⟩ := h; rfl) | (obtain ⟨_, _, _, _, _, rfl, _⟩ := h; rfl) | (obtain ⟨_, _, _, _, _, _, rfl, _⟩ := h; rfl) | (obtain ⟨rfl, _⟩ := h; rfl)) (bd__law_book Tx F__law_off (TBs _ (List.mem_of_getElem? (i := 0) rfl)) (List.mem_of_getElem? (i := 0) rfl) (hu_of nd (List.mem_of_getElem? (i := 0) rfl))) pure_law_book (fun _ _ _ _ _ _ us hl => match us, hl with | [_], _ => rfl)
  have F__law_times : Fn P w (K, TT K) mg base "_law_times" 1 ["_law_book_here", "_law_me"] sd__law_times := mkFn (cv := fun _ => True) X G c (d := d__law_times) (List.mem_of_getElem? (i := 7) rfl) rfl rfl rfl (List.mem_of_getElem? (i := 7) rfl) sc__law_times trivial (by intro ds G R EX h; first | (obtain ⟨_, rfl, _⟩ := h; rfl) | (obtain ⟨_, _, rfl, _⟩ := h; rfl) | (obtain ⟨_, _, _, rfl, _⟩ := h; rfl) | (obtain ⟨_, _, _, _, rfl, _⟩ := h; rfl) | (obtain ⟨_, _, _, _, _, rfl, _⟩ := h; rfl) | (obtain ⟨_, _, _, _, _, _, rfl, _⟩ := h; rfl) | (obtain ⟨rfl, _⟩ := h; rfl)) (bd__law_times Tx ) pure_law_times (fun _ _ _ _ _ _ us hl => match us, hl with | [_, _], _ => rfl)
  have hcode : fd.code = .ref (He.cT K ("law", none)).1 := by
    obtain ⟨fd2, F2, e2⟩ := defAt (d := d_law) c (List.mem_of_getElem? (i := 8) rfl) rfl rfl
    rw [funD_uniq Fd F2]
    exact e2
  exact okF (cv := fun v => v = .ref (He.cT K ("law", none)).1) Fd sc_law hcode len_law (bd_law Tx F__law_alike F__law_book F__law_dice F__law_off F__law_times F_free FR mR (TBs _ (List.mem_of_getElem? (i := 1) rfl)) (List.mem_of_getElem? (i := 1) rfl) (hu_of nd (List.mem_of_getElem? (i := 1) rfl))) (pure_law _)
end K16
open PySem PySem.W PySem.Calls PyProof.Rows
theorem PySem.Challenge.cw_crosscalls_k16_free_moments_holds : PySem.Challenge.rw_crosscalls_k16_free_moments.Holds := by
  w_on; o_law
  refine HandSHeadRun.head_any (r := OpenLaw.row PySem.Challenge.rw_crosscalls_k16_free_moments) (q := view (OpenLaw.row PySem.Challenge.rw_crosscalls_k16_free_moments).prog [23]) (H := K16.hk) (ob := K16.ob) (M := 20000) (loose := ["CallError", "BadHand", "BadPlan", "BadWord", "NoMeeting", "BadLetter", "BadText", "MOST_BEGIN", "MOST_LONG", "is_between", "FREE", "times_of", "free", "_law_dice", "_law_off", "_law_alike", "_law_refused", "_law_book", "_law_times"]) (d := HandSHeadRun.topDef (OpenLaw.row PySem.Challenge.rw_crosscalls_k16_free_moments).prog 23) (kwd := []) K16.ob_eq
    (by kernel_rfl) (fun s => by kernel_rfl) K16.run (by kernel_rfl) (by kernel_rfl) (by kernel_rfl) (by rfl) (by first | assumption | decide +kernel) (by decide +kernel) ⟨rfl, rfl, rfl, rfl, rfl, by decide +kernel⟩ ?hw ?hc
  case hw => w_witness2
  case hc =>
    refine LamX.walk_ofTsE (l := PySem.Challenge.rw_crosscalls_k16_free_moments) (n := 63) (k := 7) (x := "_law_script") (CX := fun w => L2N.CX (PySem.Challenge.rw_crosscalls_k16_free_moments).prog w) rfl (by decide) (by kernel_rfl) ⟨rfl, by decide, by decide⟩ ?F (fun w H s e s' h => Cc.cx_end h)
    intro w mg fa h Y G hmg0
    obtain ⟨K, KX, c⟩ := Y
    have hmg : mg ("law" : PySem.Str) = some (.ref fa) := by
      have e : (HandSHeadRun.topDef (OpenLaw.row PySem.Challenge.rw_crosscalls_k16_free_moments).prog 23).name = ("law" : PySem.Str) := by kernel_rfl
      rw [← e]
      exact hmg0
    have hT : ∀ p ∈ K16.TT K, ∃ q ∈ K16.tfs, (He.cT K q).2 = p.1 := fun p hp => by
      simp only [K16.TT, List.mem_cons, List.not_mem_nil, or_false] at hp
      rcases hp with hp | hp
      all_goals subst hp
      · exact ⟨_, List.mem_of_getElem? (i := 0) rfl, rfl⟩
      · exact ⟨_, List.mem_of_getElem? (i := 1) rfl, rfl⟩
    exact ⟨K, KX, Cc.law_at (T := K16.TT K) (d := K16.d_law) rfl KX c G hmg (List.mem_of_getElem? (i := 8) rfl) rfl rfl rfl (List.mem_of_getElem? (i := 8) rfl) hT (fun _ _ _ _ _ _ us hl => match us, hl with | [_], _ => rfl) fun base _ _ TBs fd Fd => K16.ends KX G c TBs Fd⟩
