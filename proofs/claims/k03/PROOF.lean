import PyProof.Rows.All
import Wide.All
import OpenK.AllK
import Wide.FinOn
import HandS.ForMost
import HandS.ForExc
import HandS.Lambda
import HandS.TupAny
import HandS.IsInst
import HandS.Deep
import HandS.Conv
import HandS.Codes
import HandS.Keys
import HandS.Defaults
import HandS.SetKeys
import HandS.ExcCtx
import KE.SortKeyHeap
import KE.SortData
import HandS.SortKw
import HandS.Style
import KE.KStateDown
import HandS.Head0
import HandS.Head1
import HandS.Head2
import HandS.HeadEnd
import HandS.HeadHook4
import HandS.HeadWalk
import HandS.NestedK
import HandS.Hot
import HandS.HotCalls
import HandS.ExcIs
import HandS.More
import KE.KDictPairs
import HandS.Zip
import HandS.SetFor
import KE.KLam
import PySem.Challenge.RW_crosscalls_k03_a_host_alone
import Lean
set_option Elab.async false
set_option linter.all false
set_option maxRecDepth 100000
set_option maxHeartbeats 0
/-! ### data: tuples are values; what changes is an address -/
namespace Cc
open PySem PySem.Spec PyProof.Rows L2

inductive D where
  | non | bl (b : Bool) | int (i : Int) | str (x : Str) | ty (n : String) | ref (a : Addr) | tup (l : List D) | rol (l : List D) | wol (l : List D) | key (ks : List Key) | rod (kvs : List (Key × D)) | ptp (l : List D)

/-- what the top wrote, and the tables of code objects with their names -/
abbrev KT : Type := PySem.W.Frag × List (Addr × Str)
/-- a list that nobody changes: known, or written -/
def SqR (K : PySem.W.Frag) (H : Hp) (a : Addr) (xs : List V) : Prop :=
  (∃ o, H a = some (.frz o (.lst xs))) ∨ ∃ o its n, K.lookup a = some o ∧ o.cls = Value.type "list" ∧ o.dict = none ∧ o.data = Data.seq its n ∧ its.size ≤ sizeLine ∧ Vals xs its.toList
theorem SqR.sqL {K : PySem.W.Frag} {H : Hp} {a : Addr} {xs : List V} (h : SqR K H a xs) : SqL K H a xs := by
  rcases h with ⟨o, h⟩ | h
  · exact .inl (.inr ⟨o, h⟩)
  · exact .inr h

/-- a list that is locked -/
def SqF (H : Hp) (a : Addr) (xs : List V) : Prop := ∃ o, H a = some (.frz o (.lst xs))
theorem SqF.sqL {K : PySem.W.Frag} {H : Hp} {a : Addr} {xs : List V} (h : SqF H a xs) : SqL K H a xs := by
  obtain ⟨o, h⟩ := h
  exact .inl (.inr ⟨o, h⟩)
mutual
inductive Dv (K : KT) (H : Hp) : V → D → Prop
  | non : Dv K H .non .non
  | bl (b : Bool) : Dv K H (.bl b) (.bl b)
  | int (i : Int) : Dv K H (.int i) (.int i)
  | str (x : Str) : Dv K H (.str x) (.str x)
  | ty (n : String) : Dv K H (.ty n) (.ty n)
  | ref (a : Addr) : Dv K H (.ref a) (.ref a)
  | tup {a : Addr} {xs : List V} {l : List D} : SqT K.1 H a xs → DvL K H xs l → Dv K H (.ref a) (.tup l)
  | rol {a : Addr} {xs : List V} {l : List D} : SqF H a xs → DvL K H xs l → Dv K H (.ref a) (.rol l)
  | wol {a : Addr} {xs : List V} {l : List D} : SqR K.1 H a xs → DvL K H xs l → Dv K H (.ref a) (.wol l)
  | key {a : Addr} {ks : List Key} : H a = some (.tup (ks.map kV)) → Dv K H (.ref a) (.key ks)
  | rod {a : Addr} {ys : List (Key × V)} {kvs : List (Key × D)} : (∃ o, H a = some (.frz o (.dK ys))) → DvK K H ys kvs → Dv K H (.ref a) (.rod kvs)
  | ptp {a : Addr} {xs : List V} {l : List D} : (∃ o, H a = some (.frz o (.tup xs)) ∧ o.dict = none) → DvL K H xs l → Dv K H (.ref a) (.ptp l)
inductive DvL (K : KT) (H : Hp) : List V → List D → Prop
  | nil : DvL K H [] []
  | cons {v : V} {vs : List V} {d : D} {ds : List D} : Dv K H v d → DvL K H vs ds → DvL K H (v :: vs) (d :: ds)
inductive DvK (K : KT) (H : Hp) : List (Key × V) → List (Key × D) → Prop
  | nil : DvK K H [] []
  | cons {k : Key} {v : V} {vs : List (Key × V)} {d : D} {ds : List (Key × D)} : Dv K H v d → DvK K H vs ds → DvK K H ((k, v) :: vs) ((k, d) :: ds)
end

/-- what no step undoes -/
structure Up (H H' : Hp) : Prop where
  tups : ∀ a xs, H a = some (.tup xs) → H' a = some (.tup xs)
  frzs : ∀ a o u, H a = some (.frz o u) → H' a = some (.frz o u)
  code : ∀ a q, H a = some (LamX.CodeO a q) → H' a = some (LamX.CodeO a q)
/-- what values lean on -/
structure Up0 (H H' : Hp) : Prop where
  tups : ∀ a xs, H a = some (.tup xs) → H' a = some (.tup xs)
  frzL : ∀ a o u, H a = some (.frz o (.lst u)) → H' a = some (.frz o (.lst u))
  frzK : ∀ a o u, H a = some (.frz o (.dK u)) → H' a = some (.frz o (.dK u))
theorem Up.up0 {H H' : Hp} (u : Up H H') : Up0 H H' := ⟨u.tups, fun a o x h => u.frzs a o _ h, fun a o x h => u.frzs a o _ h⟩
theorem Up.refl (H : Hp) : Up H H := ⟨fun _ _ h => h, fun _ _ _ h => h, fun _ _ h => h⟩
theorem Up.trans {H H1 H2 : Hp} (a : Up H H1) (b : Up H1 H2) : Up H H2 :=
  ⟨fun c xs h => b.tups c xs (a.tups c xs h), fun c o u h => b.frzs c o u (a.frzs c o u h), fun c q h => b.code c q (a.code c q h)⟩
theorem Up.new {H : Hp} {p : Addr} {o : HO} (h : H p = none) : Up H (upd H p o) :=
  ⟨fun a _ e => by rw [upd_ne (ne_of_none e h)]; exact e, fun a _ _ e => by rw [upd_ne (ne_of_none e h)]; exact e, fun a _ e => by rw [upd_ne (ne_of_none e h)]; exact e⟩
/-- what a store may change -/
def Wr : HO → Prop
  | .lst _ => True
  | .dK _ => True
  | .dT _ => True
  | .ins _ _ _ => True
  | .set _ _ => True
  | .xd _ => True
  | _ => False
theorem Up.put {H : Hp} {p : Addr} {o0 o : HO} (h : H p = some o0) (w : Wr o0) : Up H (upd H p o) := by
  have ne : ∀ a u, H a = some u → ¬ Wr u → a ≠ p := fun a u e n z => by
    subst z
    rw [h] at e
    cases e
    exact n w
  exact ⟨fun a xs e => by rw [upd_ne (ne a _ e (fun z => z))]; exact e, fun a _ _ e => by rw [upd_ne (ne a _ e (fun z => z))]; exact e,
    fun a _ e => by rw [upd_ne (ne a _ e (fun z => z))]; exact e⟩
section
variable {K : KT} {H H' H'' : Hp} {G G' : Addr → Option HO}
theorem Up.sqT {F : PySem.W.Frag} (u : Up H H') {a : Addr} {xs : List V} (h : SqT F H a xs) : SqT F H' a xs := by
  rcases h with (h | ⟨o, h⟩) | h
  · exact .inl (.inl (u.tups _ _ h))
  · exact .inl (.inr ⟨o, u.frzs _ _ _ h⟩)
  · exact .inr h
theorem Up.sqR {F : PySem.W.Frag} (u : Up H H') {a : Addr} {xs : List V} (h : SqR F H a xs) : SqR F H' a xs := by
  rcases h with ⟨o, h⟩ | h
  · exact .inl ⟨o, u.frzs _ _ _ h⟩
  · exact .inr h
theorem Up.sqF (u : Up H H') {a : Addr} {xs : List V} (h : SqF H a xs) : SqF H' a xs := by
  obtain ⟨o, h⟩ := h
  exact ⟨o, u.frzs _ _ _ h⟩
theorem Up0.sqT {F : PySem.W.Frag} (u : Up0 H H') (hf : ∀ a o xs, H a = some (.frz o (.tup xs)) → H' a = some (.frz o (.tup xs))) {a : Addr} {xs : List V} (h : SqT F H a xs) : SqT F H' a xs := by
  rcases h with (h | ⟨o, h⟩) | h
  · exact .inl (.inl (u.tups _ _ h))
  · exact .inl (.inr ⟨o, hf _ _ _ h⟩)
  · exact .inr h
theorem Up0.sqR {F : PySem.W.Frag} (u : Up0 H H') {a : Addr} {xs : List V} (h : SqR F H a xs) : SqR F H' a xs := by
  rcases h with ⟨o, h⟩ | h
  · exact .inl ⟨o, u.frzL _ _ _ h⟩
  · exact .inr h
mutual
theorem Dv.up0 (u : Up0 H H') (hf : ∀ a o xs, H a = some (.frz o (.tup xs)) → H' a = some (.frz o (.tup xs))) : ∀ {v : V} {d : D}, Dv K H v d → Dv K H' v d
  | _, _, .non => .non
  | _, _, .bl b => .bl b
  | _, _, .int i => .int i
  | _, _, .str x => .str x
  | _, _, .ty n => .ty n
  | _, _, .ref a => .ref a
  | _, _, .tup h r => .tup (u.sqT hf h) (DvL.up0 u hf r)
  | _, _, .rol h r => .rol (by obtain ⟨o, h⟩ := h; exact ⟨o, u.frzL _ _ _ h⟩) (DvL.up0 u hf r)
  | _, _, .wol h r => .wol (u.sqR h) (DvL.up0 u hf r)
  | _, _, .key h => .key (u.tups _ _ h)
  | _, _, .rod h r => .rod (by obtain ⟨o, h⟩ := h; exact ⟨o, u.frzK _ _ _ h⟩) (DvK.up0 u hf r)
  | _, _, .ptp h r => .ptp (by obtain ⟨o, h, hd⟩ := h; exact ⟨o, hf _ _ _ h, hd⟩) (DvL.up0 u hf r)
theorem DvL.up0 (u : Up0 H H') (hf : ∀ a o xs, H a = some (.frz o (.tup xs)) → H' a = some (.frz o (.tup xs))) : ∀ {v : List V} {d : List D}, DvL K H v d → DvL K H' v d
  | _, _, .nil => .nil
  | _, _, .cons h r => .cons (Dv.up0 u hf h) (DvL.up0 u hf r)
theorem DvK.up0 (u : Up0 H H') (hf : ∀ a o xs, H a = some (.frz o (.tup xs)) → H' a = some (.frz o (.tup xs))) : ∀ {v : List (Key × V)} {d : List (Key × D)}, DvK K H v d → DvK K H' v d
  | _, _, .nil => .nil
  | _, _, .cons h r => .cons (Dv.up0 u hf h) (DvK.up0 u hf r)
end
theorem Dv.up (u : Up H H') {v : V} {d : D} (h : Dv K H v d) : Dv K H' v d := h.up0 u.up0 fun a o xs e => u.frzs a o _ e
theorem DvL.up (u : Up H H') {v : List V} {d : List D} (h : DvL K H v d) : DvL K H' v d := h.up0 u.up0 fun a o xs e => u.frzs a o _ e
theorem DvK.up (u : Up H H') {v : List (Key × V)} {d : List (Key × D)} (h : DvK K H v d) : DvK K H' v d := h.up0 u.up0 fun a o xs e => u.frzs a o _ e
/-- a key as a value -/
def kD : Key → D
  | .inl i => .int i
  | .inr x => .str x
theorem dv_kD (k : Key) : Dv K H (kV k) (kD k) := by
  cases k with
  | inl i => exact .int i
  | inr x => exact .str x
theorem dvL_kD : ∀ ks : List Key, DvL K H (ks.map kV) (ks.map kD)
  | [] => .nil
  | k :: ks => .cons (dv_kD k) (dvL_kD ks)
/-- a tuple's items -/
def D.tl : D → Option (List D)
  | .tup l => some l
  | .key ks => some (ks.map kD)
  | .ptp l => some l
  | _ => none
theorem Dv.sqT {v : V} {d : D} {l : List D} (h : Dv K H v d) (e : d.tl = some l) : ∃ a xs, v = .ref a ∧ SqT K.1 H a xs ∧ DvL K H xs l := by
  cases h with
  | tup q r => cases e; exact ⟨_, _, rfl, q, r⟩
  | key q => cases e; exact ⟨_, _, rfl, SqT.of q, dvL_kD _⟩
  | ptp q r => cases e; obtain ⟨o, q, _⟩ := q; exact ⟨_, _, rfl, .inl (.inr ⟨o, q⟩), r⟩
  | _ => cases e
theorem DvL.length : ∀ {v : List V} {d : List D}, DvL K H v d → v.length = d.length
  | _, _, .nil => rfl
  | _, _, .cons _ r => congrArg (· + 1) (DvL.length r)
theorem DvL.append : ∀ {v w : List V} {d e : List D}, DvL K H v d → DvL K H w e → DvL K H (v ++ w) (d ++ e)
  | _, _, _, _, .nil, s => s
  | _, _, _, _, .cons h r, s => .cons h (DvL.append r s)
theorem DvL.get : ∀ {v : List V} {d : List D} {i : Nat} {x : D}, DvL K H v d → d[i]? = some x → ∃ u, v[i]? = some u ∧ Dv K H u x
  | _, _, _, _, .nil, e => by simp at e
  | _, _, 0, _, .cons h _, e => by simp at e; subst e; exact ⟨_, rfl, h⟩
  | _, _, i + 1, _, .cons _ r, e => by
    obtain ⟨u, h1, h2⟩ := DvL.get (i := i) r (by simpa using e)
    exact ⟨u, by simpa using h1, h2⟩
theorem DvL.get' : ∀ {v : List V} {d : List D} {i : Nat} {u : V}, DvL K H v d → v[i]? = some u → ∃ x, d[i]? = some x ∧ Dv K H u x
  | _, _, _, _, .nil, e => by simp at e
  | _, _, 0, _, .cons h _, e => by simp at e; subst e; exact ⟨_, rfl, h⟩
  | _, _, i + 1, _, .cons _ r, e => by
    obtain ⟨u, h1, h2⟩ := DvL.get' (i := i) r (by simpa using e)
    exact ⟨u, by simpa using h1, h2⟩
theorem DvL.set {u : V} {x : D} (h : Dv K H u x) : ∀ {v : List V} {d : List D} (i : Nat), DvL K H v d → DvL K H (v.set i u) (d.set i x)
  | _, _, _, .nil => .nil
  | _, _, 0, .cons _ r => .cons h r
  | _, _, i + 1, .cons g r => .cons g (DvL.set h i r)
theorem DvL.eraseIdx : ∀ {v : List V} {d : List D} (i : Nat), DvL K H v d → DvL K H (v.eraseIdx i) (d.eraseIdx i)
  | _, _, _, .nil => .nil
  | _, _, 0, .cons _ r => r
  | _, _, i + 1, .cons g r => .cons g (DvL.eraseIdx i r)
theorem DvL.take : ∀ {v : List V} {d : List D} (n : Nat), DvL K H v d → DvL K H (v.take n) (d.take n)
  | _, _, 0, _ => .nil
  | _, _, _ + 1, .nil => .nil
  | _, _, n + 1, .cons r t => .cons r (DvL.take n t)
theorem DvL.drop : ∀ {v : List V} {d : List D} (n : Nat), DvL K H v d → DvL K H (v.drop n) (d.drop n)
  | _, _, 0, r => r
  | _, _, _ + 1, .nil => .nil
  | _, _, n + 1, .cons _ t => DvL.drop n t
theorem DvL.dropLast {v : List V} {d : List D} (h : DvL K H v d) : DvL K H v.dropLast d.dropLast := by
  rw [List.dropLast_eq_take, List.dropLast_eq_take, h.length]
  exact h.take _
end

/-! ### cells -/
inductive C where
  | lst (l : List D)
  | dK (kvs : List (Key × D)) | dT (kvs : List (List Key × D))
  | ins (cl : Addr) (fs : List (Str × D))
  | xd (fs : List (Str × D))
abbrev DH := Addr → Option C
def updD (G : DH) (a : Addr) (c : C) : DH := fun b => if b = a then some c else G b
theorem updD_same {G : DH} {a : Addr} {c : C} : updD G a c a = some c := by unfold updD; rw [if_pos rfl]
theorem updD_ne {G : DH} {a b : Addr} {c : C} (h : b ≠ a) : updD G a c b = G b := by unfold updD; rw [if_neg h]
theorem updD_updD {G : DH} {a : Addr} {c d : C} : updD (updD G a c) a d = updD G a d := by
  funext b; unfold updD; split <;> rfl
def Sub (G G' : DH) : Prop := ∀ a c, G a = some c → G' a = some c
theorem Sub.refl (G : DH) : Sub G G := fun _ _ h => h
theorem Sub.trans {G G1 G2 : DH} (a : Sub G G1) (b : Sub G1 G2) : Sub G G2 := fun x c h => b x c (a x c h)
theorem Sub.new {G : DH} {p : Addr} {c : C} (h : G p = none) : Sub G (updD G p c) := fun a u e => by
  rw [updD_ne (fun z => by subst z; rw [h] at e; cases e)]
  exact e
theorem neD {G : DH} {a b : Addr} {c : C} (h : G a = some c) (h' : G b = none) : a ≠ b := fun z => by
  subst z; rw [h] at h'; cases h'
theorem neDD {G : DH} {a b : Addr} {c d : C} (h : G a = some c) (h' : G b = some d) (n : c ≠ d) : a ≠ b := fun z => by
  subst z; rw [h] at h'; exact n (Option.some.inj h')
abbrev KVr (K : KT) (H : Hp) {κ : Type} : List (κ × V) → List (κ × D) → Prop := Paired fun p q => p.1 = q.1 ∧ Dv K H p.2 q.2
theorem DvK.kvr {K : KT} {H : Hp} : ∀ {ys : List (Key × V)} {kvs : List (Key × D)}, DvK K H ys kvs → KVr K H ys kvs
  | _, _, .nil => .nil
  | _, _, .cons h r => .cons ⟨rfl, h⟩ (DvK.kvr r)
theorem DvK.of {K : KT} {H : Hp} : ∀ {ys : List (Key × V)} {kvs : List (Key × D)}, KVr K H ys kvs → DvK K H ys kvs
  | _, _, .nil => .nil
  | (k, v) :: _, (j, d) :: _, .cons h r => by
    obtain ⟨e, h⟩ := h
    have e : k = j := e
    subst e
    exact .cons h (DvK.of r)
def CRel (K : KT) (H : Hp) (a : Addr) : C → Prop
  | .lst l => ∃ xs, H a = some (.lst xs) ∧ DvL K H xs l
  | .dK kvs => ∃ ys, H a = some (.dK ys) ∧ KVr K H ys kvs
  | .dT kvs => ∃ ys, H a = some (.dT ys) ∧ KVr K H ys kvs
  | .ins cl fs => ∃ dx ys, H a = some (.ins cl dx ys) ∧ KVr K H ys fs
  | .xd fs => ∃ ys, H a = some (.xd ys) ∧ KVr K H ys fs
structure HRel (K : KT) (G : DH) (H : Hp) : Prop where
  c : ∀ a c, G a = some c → CRel K H a c
  t : LamX.Tabs K.2 H
instance {K : KT} {G : DH} {H : Hp} : CoeFun (HRel K G H) (fun _ => ∀ a c, G a = some c → CRel K H a c) := ⟨HRel.c⟩
section
variable {K : KT} {H H' : Hp} {G G' : DH} {a p : Addr} {c : C} {o o0 : HO}
theorem KVr.up {κ : Type} (u : Up H H') {xs : List (κ × V)} {ys : List (κ × D)} (h : KVr K H xs ys) : KVr K H' xs ys :=
  Paired.mapP h fun _ _ q => ⟨q.1, q.2.up u⟩
theorem CRel.some (h : CRel K H a c) : ∃ o, H a = some o := by
  cases c with
  | lst l => obtain ⟨xs, e, _⟩ := h; exact ⟨_, e⟩
  | dK l => obtain ⟨xs, e, _⟩ := h; exact ⟨_, e⟩
  | dT l => obtain ⟨xs, e, _⟩ := h; exact ⟨_, e⟩
  | ins cl fs => obtain ⟨dx, xs, e, _⟩ := h; exact ⟨_, e⟩
  | xd l => obtain ⟨xs, e, _⟩ := h; exact ⟨_, e⟩
theorem CRel.stay (u : Up H H') (e : H' a = H a) (h : CRel K H a c) : CRel K H' a c := by
  cases c with
  | lst l => obtain ⟨xs, q, r⟩ := h; exact ⟨xs, e.trans q, r.up u⟩
  | dK l => obtain ⟨xs, q, r⟩ := h; exact ⟨xs, e.trans q, r.up u⟩
  | dT l => obtain ⟨xs, q, r⟩ := h; exact ⟨xs, e.trans q, r.up u⟩
  | ins cl fs => obtain ⟨dx, xs, q, r⟩ := h; exact ⟨dx, xs, e.trans q, r.up u⟩
  | xd l => obtain ⟨xs, q, r⟩ := h; exact ⟨xs, e.trans q, r.up u⟩
theorem tabs_new (h : LamX.Tabs K.2 H) (e : H p = Option.none) : LamX.Tabs K.2 (upd H p o) := h.ext fun b u z => by
  rw [upd_ne (ne_of_none z e)]; exact z
theorem tabs_put (h : LamX.Tabs K.2 H) (e : H p = some o0) (w : Wr o0) : LamX.Tabs K.2 (upd H p o) := fun x hx => by
  obtain ⟨ps, h1, h2, h3⟩ := h x hx
  have u : Up H (upd H p o) := Up.put e w
  refine ⟨ps, ?_, h2, fun pos cv z => ?_⟩
  · rw [upd_ne (fun z => by subst z; rw [h1] at e; cases e; exact w)]; exact h1
  · obtain ⟨c0, e1, e2⟩ := h3 pos cv z
    exact ⟨c0, e1, u.code _ _ e2⟩
theorem HRel.none (h : HRel K G H) (e : H p = Option.none) : G p = Option.none := by
  cases q : G p with
  | none => rfl
  | some c =>
    obtain ⟨o, z⟩ := (h p c q).some
    rw [e] at z; cases z
theorem HRel.new0 (h : HRel K G H) (e : H p = Option.none) : HRel K G (upd H p o) := ⟨fun a c q => by
  obtain ⟨u, z⟩ := (h a c q).some
  exact (h a c q).stay (Up.new e) (upd_ne (ne_of_none z e)), tabs_new h.t e⟩
theorem HRel.new (h : HRel K G H) (e : H p = Option.none) (r : CRel K (upd H p o) p c) : HRel K (updD G p c) (upd H p o) := ⟨fun a c' q => by
  by_cases hb : a = p
  · subst hb; rw [updD_same] at q; cases q; exact r
  · rw [updD_ne hb] at q
    exact (h a c' q).stay (Up.new e) (upd_ne hb), tabs_new h.t e⟩
theorem HRel.put (h : HRel K G H) (e : H p = some o0) (w : Wr o0) (r : CRel K (upd H p o) p c) : HRel K (updD G p c) (upd H p o) := ⟨fun a c' q => by
  by_cases hb : a = p
  · subst hb; rw [updD_same] at q; cases q; exact r
  · rw [updD_ne hb] at q
    exact (h a c' q).stay (Up.put e w) (upd_ne hb), tabs_put h.t e w⟩
theorem HRel.sub (h : HRel K G H) (s : Sub G' G) : HRel K G' H := ⟨fun a c q => h a c (s a c q), h.t⟩
end

/-! ### the lift -/
abbrev DS := List (Option D)
abbrev DK := D → DH → Prop
abbrev DX := Value → Option Addr → DH → Prop
abbrev DE := DS → DH → DK → DX → Prop
abbrev DT := DS → DH → (Bool → DH → Prop) → DX → Prop
abbrev DA := DS → DH → (List D → DH → Prop) → DX → Prop
structure DEnds where
  nx : DS → DH → Prop
  rt : DK
  bk : DS → DH → Prop := fun _ _ => False
  ct : DS → DH → Prop := fun _ _ => False
  ex : DX := fun _ _ _ => False
abbrev DSt := DEnds → DS → DH → Prop
abbrev SpD := List D → DH → DK → DX → Prop
abbrev D2 := D → D → DH → DK → Prop

def SRel (K : KT) (H : Hp) (σ : L2.St) (δ : DS) : Prop := σ.length = δ.length ∧ ∀ (i : Nat) (d : D), δ[i]? = some (some d) → ∃ v, σ[i]? = some (some v) ∧ Dv K H v d
def CloX (K : KT) (H : Hp) (E : XK) (EX : DX) : Prop := ∀ c o H' G', Up H H' → HRel K G' H' → EX c o G' → E c o H'
def CloR (K : KT) (H : Hp) (Q : VK) (R : DK) : Prop := ∀ v H' d G', Up H H' → HRel K G' H' → Dv K H' v d → R d G' → Q v H'
def CloB (K : KT) (H : Hp) (Q : Bool → Hp → Prop) (R : Bool → DH → Prop) : Prop := ∀ b H' G', Up H H' → HRel K G' H' → R b G' → Q b H'
def CloA (K : KT) (H : Hp) (Q : List V → Hp → Prop) (R : List D → DH → Prop) : Prop := ∀ v H' d G', Up H H' → HRel K G' H' → DvL K H' v d → R d G' → Q v H'
def CloS (K : KT) (H : Hp) (Q : L2.St → Hp → Prop) (R : DS → DH → Prop) : Prop := ∀ σ' H' δ' G', Up H H' → SRel K H' σ' δ' → HRel K G' H' → R δ' G' → Q σ' H'
def up (K : KT) (E : XK) (de : DE) : TE := fun σ H Q => ∃ δ G R EX, SRel K H σ δ ∧ HRel K G H ∧ de δ G R EX ∧ CloR K H Q R ∧ CloX K H E EX
def upT (K : KT) (E : XK) (de : DT) : TT := fun σ H Q => ∃ δ G R EX, SRel K H σ δ ∧ HRel K G H ∧ de δ G R EX ∧ CloB K H Q R ∧ CloX K H E EX
def upA (K : KT) (E : XK) (de : DA) : TA := fun σ H Q => ∃ δ G R EX, SRel K H σ δ ∧ HRel K G H ∧ de δ G R EX ∧ CloA K H Q R ∧ CloX K H E EX
def upS (K : KT) (E : XK) (ds : DSt) : TS := fun Dn σ H => ∃ δ G DD, SRel K H σ δ ∧ HRel K G H ∧ ds DD δ G ∧ CloS K H Dn.nx DD.nx ∧ CloR K H Dn.rt DD.rt ∧ CloS K H Dn.bk DD.bk ∧ CloS K H Dn.ct DD.ct ∧ CloX K H E DD.ex
def upF (K : KT) (sd : SpD) : Sp := fun vs H Q E => ∃ ds G R EX, DvL K H vs ds ∧ HRel K G H ∧ sd ds G R EX ∧ CloR K H Q R ∧ CloX K H E EX
section
variable {K : KT} {H H' : Hp} {σ : L2.St} {δ : DS}
theorem SRel.up (u : Up H H') (h : SRel K H σ δ) : SRel K H' σ δ := ⟨h.1, fun i d e => by
  obtain ⟨v, a, b⟩ := h.2 i d e
  exact ⟨v, a, b.up u⟩⟩
theorem SRel.set {i : Nat} {v : V} {d : D} (h : SRel K H σ δ) (r : Dv K H v d) : SRel K H (σ.set i (some v)) (δ.set i (some d)) := by
  refine ⟨by rw [List.length_set, List.length_set]; exact h.1, fun j e q => ?_⟩
  by_cases hb : i = j
  · subst hb
    by_cases hl : i < δ.length
    · rw [List.getElem?_set_self hl] at q
      cases q
      exact ⟨v, List.getElem?_set_self (by rw [h.1]; exact hl), r⟩
    · rw [List.getElem?_eq_none (by rw [List.length_set]; omega)] at q
      cases q
  · rw [List.getElem?_set_ne hb] at q ⊢
    exact h.2 j e q
theorem CloX.up {E : XK} {EX : DX} (u : Up H H') (h : CloX K H E EX) : CloX K H' E EX := fun c o H2 G2 u2 r q => h c o H2 G2 (u.trans u2) r q
theorem CloR.up {Q : VK} {R : DK} (u : Up H H') (h : CloR K H Q R) : CloR K H' Q R := fun v H2 d G2 u2 r q x => h v H2 d G2 (u.trans u2) r q x
theorem CloB.up {Q : Bool → Hp → Prop} {R : Bool → DH → Prop} (u : Up H H') (h : CloB K H Q R) : CloB K H' Q R := fun v H2 G2 u2 r x => h v H2 G2 (u.trans u2) r x
theorem CloA.up {Q : List V → Hp → Prop} {R : List D → DH → Prop} (u : Up H H') (h : CloA K H Q R) : CloA K H' Q R := fun v H2 d G2 u2 r q x => h v H2 d G2 (u.trans u2) r q x
theorem CloS.up {Q : L2.St → Hp → Prop} {R : DS → DH → Prop} (u : Up H H') (h : CloS K H Q R) : CloS K H' Q R := fun s H2 d G2 u2 r q x => h s H2 d G2 (u.trans u2) r q x
end
/-- the wish of an error, the tables -/
abbrev EK : Type := XK × List (Addr × Str)
abbrev kt (X : Cx) (E : EK) : KT := (X.K, E.2)
structure PD (X : Cx) (E : EK) (e : Expr) (de : DE) : Prop where
  pe : PE X e (up (kt X E) E.1 de)
structure PDT (X : Cx) (E : EK) (e : Expr) (de : DT) : Prop where
  pt : PT X e (upT (kt X E) E.1 de)
structure PDW (X : Cx) (E : EK) (e : Expr) (de : DT) : Prop where
  pw : PW X e (upT (kt X E) E.1 de)
structure PDA (X : Cx) (E : EK) (e : List Expr) (de : DA) : Prop where
  pa : PA X e (upA (kt X E) E.1 de)
structure PDS (X : Cx) (E : EK) (st : Stmt) (ds : DSt) : Prop where
  ps : PS X st (upS (kt X E) E.1 ds)
structure PDSs (X : Cx) (E : EK) (st : List Stmt) (ds : DSt) : Prop where
  ps : PSs X st (upS (kt X E) E.1 ds)
theorem imE {X : Cx} {e : Expr} {t u : TE} (h : PE X e t) (k : ∀ σ H Q, u σ H Q → t σ H Q) : PE X e u := ⟨fun pins s σ H Q I q => h.run pins s σ H Q I (k σ H Q q)⟩
theorem imT {X : Cx} {e : Expr} {t u : TT} (h : PT X e t) (k : ∀ σ H Q, u σ H Q → t σ H Q) : PT X e u := ⟨fun pins s σ H Q I q => h.run pins s σ H Q I (k σ H Q q)⟩
theorem imW {X : Cx} {e : Expr} {t u : TT} (h : PW X e t) (k : ∀ σ H Q, u σ H Q → t σ H Q) : PW X e u := ⟨fun w pins s σ H Q I q => h.run w pins s σ H Q I (k σ H Q q)⟩
theorem imA {X : Cx} {e : List Expr} {t u : TA} (h : PA X e t) (k : ∀ σ H Q, u σ H Q → t σ H Q) : PA X e u := ⟨fun w pins s σ H Q I q => h.run w pins s σ H Q I (k σ H Q q)⟩
theorem imS {X : Cx} {e : Stmt} {t u : TS} (h : PS X e t) (k : ∀ D σ H, u D σ H → t D σ H) : PS X e u := ⟨fun pins s σ H Q I q => h.run pins s σ H Q I (k Q σ H q)⟩
theorem imSs {X : Cx} {e : List Stmt} {t u : TS} (h : PSs X e t) (k : ∀ D σ H, u D σ H → t D σ H) : PSs X e u := ⟨fun pins s σ H Q I q => h.run pins s σ H Q I (k Q σ H q)⟩
end Cc
/-! ### the rules: expressions, tests, statements -/
namespace Cc
open PySem PySem.Spec PyProof.Rows L2
section
variable {X : Cx} {E : EK} {a b c e : Expr} {es rest : List Expr} {pos : Pos} {da db dc de : DE} {dA dB : DT} {dl : DA}
/-! names, constants -/
def dVar (i : Nat) : DE := fun δ G R _ => match δ[i]? with
  | some (some d) => R d G
  | _ => False
def dC (d : D) : DE := fun _ G R _ => R d G
theorem pd_var (i : Nat) {x : Str} (h : PE X (.Name x pos) (tVar i)) : PD X E (.Name x pos) (dVar i) := ⟨imE h fun σ H Q ⟨δ, G, R, EX, sr, hr, h, cr, cx⟩ => by
  unfold dVar at h
  split at h
  · rename_i d e
    obtain ⟨v, e1, r⟩ := sr.2 _ _ e
    exact ⟨v, e1, cr v H d G (Up.refl H) hr r h⟩
  · exact h.elim⟩
theorem pd_c {v : V} {d : D} (h : PE X e (tC v)) (hd : ∀ H, Dv (kt X E) H v d) : PD X E e (dC d) := ⟨imE h fun σ H Q ⟨δ, G, R, EX, sr, hr, h, cr, cx⟩ => cr v H d G (Up.refl H) hr (hd H) h⟩
theorem pd_int {i : Int} {j} : PD X E (.Constant (.int i) j pos) (dC (.int i)) := pd_c pe_int fun _ => .int i
theorem pd_bl {i : Bool} {j} : PD X E (.Constant (.bool i) j pos) (dC (.bl i)) := pd_c pe_bl fun _ => .bl i
theorem pd_str {i : Str} {j} : PD X E (.Constant (.str i) j pos) (dC (.str i)) := pd_c pe_str fun _ => .str i
theorem pd_non {j} : PD X E (.Constant .none j pos) (dC .non) := pd_c pe_non fun _ => .non
/-- a name of the module -/
def GloC (K : PySem.W.Frag) (mg : Str → Option Value) (x : Str) (d : D) : Prop := ∃ v u, mg x = some u ∧ RelV v u ∧ ∀ T H, Dv (K, T) H v d
theorem pd_glob {x : Str} {d : D} (hg : Gl X x) (hm : GloC X.K X.mg x d) (hd : (x == ("__debug__" : Str)) = false := by decide) : PD X E (.Name x pos) (dC d) := by
  obtain ⟨v, u, h1, h2, h3⟩ := hm
  exact pd_c (pe_glob hg h1 h2 hd) (h3 E.2)
/-! operators -/
def Lift2 (K : KT) (r : R2) (r2 : D2) : Prop := ∀ x y H d e G R Q, HRel K G H → Dv K H x d → Dv K H y e → r2 d e G R → CloR K H Q R → r x y H Q
def dOp (r : D2) (da db : DE) : DE := fun δ G R EX => da δ G (fun x G1 => db δ G1 (fun y G2 => r x y G2 R) EX) EX
theorem up_op {r : R2} {r2 : D2} (l : ∀ T, Lift2 (X.K, T) r r2) {σ : L2.St} {H : Hp} {Q : VK} : up (kt X E) E.1 (dOp r2 da db) σ H Q → tOp r (up (kt X E) E.1 da) (up (kt X E) E.1 db) σ H Q := fun ⟨δ, G, R, EX, sr, hr, h, cr, cx⟩ =>
  ⟨δ, G, _, EX, sr, hr, h, fun x H1 d G1 u1 h1 r1 q1 => ⟨δ, G1, _, EX, sr.up u1, h1, q1, fun y H2 e G2 u2 h2 r2 q2 => l _ x y H2 d e G2 R Q h2 (r1.up u2) r2 q2 (cr.up (u1.trans u2)), cx.up u1⟩, cx⟩
theorem pd_op {op : Operator} {r : R2} {r2 : D2} (ho : OpR X (binaryOp op) r) (l : ∀ T, Lift2 (X.K, T) r r2) (ha : PD X E a da) (hb : PD X E b db) : PD X E (.BinOp a op b pos) (dOp r2 da db) :=
  ⟨imE (pe_op ho ha.pe hb.pe) fun _ _ _ => up_op l⟩
theorem pd_cmp {op : CmpOp} {r : R2} {r2 : D2} (ho : OpR X (compareOp op) r) (l : ∀ T, Lift2 (X.K, T) r r2) (ha : PD X E a da) (hb : PD X E b db) (hm : behindInMarks op b = false) : PD X E (.Compare a [op] [b] pos) (dOp r2 da db) :=
  ⟨imE (pe_cmpR ho ha.pe hb.pe hm) fun _ _ _ => up_op l⟩
theorem pd_ix {r : R2} {r2 : D2} (hr : IxR X r) (l : ∀ T, Lift2 (X.K, T) r r2) (ha : PD X E a da) (hb : PD X E b db) (hs : PlainIx b) : PD X E (.Subscript a b pos) (dOp r2 da db) :=
  ⟨imE (pe_ix hr ha.pe hb.pe hs) fun _ _ _ => up_op l⟩
abbrev D1 := D → DH → DK → Prop
def Lift1 (K : KT) (r : V → Hp → VK → Prop) (r2 : D1) : Prop := ∀ x H d G R Q, HRel K G H → Dv K H x d → r2 d G R → CloR K H Q R → r x H Q
def dUn (r : D1) (da : DE) : DE := fun δ G R EX => da δ G (fun x G1 => r x G1 R) EX
theorem pd_un {op : UnaryOp} {r : V → Hp → VK → Prop} {r2 : D1} (ho : UnR X (unaryOp op) r) (l : ∀ T, Lift1 (X.K, T) r r2) (ha : PD X E a da) : PD X E (.UnaryOp op a pos) (dUn r2 da) :=
  ⟨imE (pe_un ho ha.pe) fun σ H Q ⟨δ, G, R, EX, sr, hr, h, cr, cx⟩ => ⟨δ, G, _, EX, sr, hr, h, fun x H1 d G1 u1 h1 r1 q1 => l _ x H1 d G1 R Q h1 r1 q1 (cr.up u1), cx⟩⟩
/-- a test from a truth value -/
def blD (R : Bool → DH → Prop) : DK := fun x G => match x with
  | .bl c => R c G
  | _ => False
theorem CloB.bl {H : Hp} {Q : Bool → Hp → Prop} {R : Bool → DH → Prop} (cr : CloB (kt X E) H Q R) : CloR (kt X E) H (fun x H' => ∃ c, x = .bl c ∧ Q c H') (blD R) := fun x H1 d G1 u1 h1 r1 q1 => by
  cases r1 with
  | bl c => exact ⟨c, rfl, cr c H1 G1 u1 h1 q1⟩
  | _ => exact False.elim q1
def dTest (da : DE) : DT := fun δ G R EX => da δ G (blD R) EX
theorem up_test {σ : L2.St} {H : Hp} {Q : Bool → Hp → Prop} : upT (kt X E) E.1 (dTest da) σ H Q → tTest (up (kt X E) E.1 da) σ H Q := fun ⟨δ, G, R, EX, sr, hr, h, cr, cx⟩ =>
  ⟨δ, G, _, EX, sr, hr, h, cr.bl, cx⟩
theorem pdt_cmp {op : CmpOp} {r : R2} {r2 : D2} (ho : OpR X (compareOp op) r) (l : ∀ T, Lift2 (X.K, T) r r2) (ha : PD X E a da) (hb : PD X E b db) (hm : behindInMarks op b = false) : PDT X E (.Compare a [op] [b] pos) (dTest (dOp r2 da db)) :=
  ⟨imT (pt_cmpR ho ha.pe hb.pe hm) fun σ H Q h => by
    obtain ⟨δ, G, R, EX, sr, hr, h, cr, cx⟩ := h
    exact up_op l ⟨δ, G, _, EX, sr, hr, h, cr.bl, cx⟩⟩
theorem pdt_val (h : PD X E e de) (he : ∀ whole, isTrue e X.env whole = (do let v ← whole; standAt e.pos; holding [v] (truthy v)) := by intro _; rfl) : PDT X E e (dTest de) :=
  ⟨imT (pt_val h.pe he) fun _ _ _ => up_test⟩
/-- a op b op' c -/
def dChain (r r' : D2) (da db dc : DE) : DE := fun δ G R EX => da δ G (fun x G1 => db δ G1 (fun y G2 => r x y G2 (blD fun k G3 => if k = true then dc δ G3 (fun u G4 => r' y u G4 R) EX else R (.bl false) G3)) EX) EX
theorem up_chain {r s : R2} {r2 s2 : D2} (l : ∀ T, Lift2 (X.K, T) r r2) (m : ∀ T, Lift2 (X.K, T) s s2) {σ : L2.St} {H : Hp} {Q : VK} : up (kt X E) E.1 (dChain r2 s2 da db dc) σ H Q → tChain r s (up (kt X E) E.1 da) (up (kt X E) E.1 db) (up (kt X E) E.1 dc) σ H Q := fun ⟨δ, G, R, EX, sr, hr, h, cr, cx⟩ =>
  ⟨δ, G, _, EX, sr, hr, h, fun x H1 d G1 u1 h1 r1 q1 => ⟨δ, G1, _, EX, sr.up u1, h1, q1, fun y H2 e G2 u2 h2 r2 q2 => l _ x y H2 d e G2 _ _ h2 (r1.up u2) r2 q2 fun z H3 f G3 u3 h3 r3 q3 => by
    cases r3 with
    | bl k =>
      refine ⟨k, rfl, ?_⟩
      have q3 : if k = true then dc δ G3 (fun u G4 => s2 e u G4 R) EX else R (.bl false) G3 := q3
      cases k with
      | true =>
        rw [if_pos rfl] at q3 ⊢
        exact ⟨δ, G3, _, EX, sr.up (u1.trans (u2.trans u3)), h3, q3, fun w H4 g G4 u4 h4 r4 q4 => m _ y w H4 e g G4 R Q h4 ((r2.up u3).up u4) r4 q4 (cr.up (u1.trans (u2.trans (u3.trans u4)))), cx.up (u1.trans (u2.trans u3))⟩
      | false =>
        rw [if_neg Bool.false_ne_true] at q3 ⊢
        exact cr (.bl false) H3 _ G3 (u1.trans (u2.trans u3)) h3 (.bl false) q3
    | _ => exact False.elim q3, cx.up u1⟩, cx⟩
theorem pd_chain {op op' : CmpOp} {r s : R2} {r2 s2 : D2} (ho : OpR X (compareOp op) r) (l : ∀ T, Lift2 (X.K, T) r r2) (ho' : OpR X (compareOp op') s) (m : ∀ T, Lift2 (X.K, T) s s2) (ha : PD X E a da) (hb : PD X E b db) (hc : PD X E c dc)
    (hm : lastMarks [op, op'] [b, c] = false := by with_unfolding_all rfl) : PD X E (.Compare a [op, op'] [b, c] pos) (dChain r2 s2 da db dc) := ⟨imE (pe_chain ho ho' ha.pe hb.pe hc.pe hm) fun _ _ _ => up_chain l m⟩
theorem pdt_chain {op op' : CmpOp} {r s : R2} {r2 s2 : D2} (ho : OpR X (compareOp op) r) (l : ∀ T, Lift2 (X.K, T) r r2) (ho' : OpR X (compareOp op') s) (m : ∀ T, Lift2 (X.K, T) s s2) (ha : PD X E a da) (hb : PD X E b db) (hc : PD X E c dc)
    (hm : lastMarks [op, op'] [b, c] = false := by with_unfolding_all rfl) : PDT X E (.Compare a [op, op'] [b, c] pos) (dTest (dChain r2 s2 da db dc)) := ⟨imT (pt_chain ho ho' ha.pe hb.pe hc.pe hm) fun σ H Q ⟨δ, G, R, EX, sr, hr, h, cr, cx⟩ => up_chain l m ⟨δ, G, _, EX, sr, hr, h, cr.bl, cx⟩⟩
/-! and, or, not -/
def dAnd (t u : DT) : DT := fun δ G R EX => t δ G (fun c G1 => if c = true then u δ G1 R EX else R false G1) EX
def dOr (t u : DT) : DT := fun δ G R EX => t δ G (fun c G1 => if c = true then R true G1 else u δ G1 R EX) EX
def dNot (t : DT) : DT := fun δ G R EX => t δ G (fun c G1 => R (!c) G1) EX
theorem pdw_and1 (ha : PDT X E a dA) : PDW X E (.BoolOp .And [a] pos) dA := ⟨pw_and1 ha.pt⟩
theorem pdw_or1 (ha : PDT X E a dA) : PDW X E (.BoolOp .Or [a] pos) dA := ⟨pw_or1 ha.pt⟩
theorem pdw_and (ha : PDT X E a dA) (hb : PDW X E (.BoolOp .And (b :: rest) pos) dB) : PDW X E (.BoolOp .And (a :: b :: rest) pos) (dAnd dA dB) :=
  ⟨imW (pw_and ha.pt hb.pw) fun σ H Q ⟨δ, G, R, EX, sr, hr, h, cr, cx⟩ => ⟨δ, G, _, EX, sr, hr, h, fun c H1 G1 u1 h1 q1 => by
    cases c with
    | true => rw [if_pos rfl] at q1 ⊢; exact ⟨δ, G1, R, EX, sr.up u1, h1, q1, cr.up u1, cx.up u1⟩
    | false => rw [if_neg Bool.false_ne_true] at q1 ⊢; exact cr _ _ _ u1 h1 q1, cx⟩⟩
theorem pdw_or (ha : PDT X E a dA) (hb : PDW X E (.BoolOp .Or (b :: rest) pos) dB) : PDW X E (.BoolOp .Or (a :: b :: rest) pos) (dOr dA dB) :=
  ⟨imW (pw_or ha.pt hb.pw) fun σ H Q ⟨δ, G, R, EX, sr, hr, h, cr, cx⟩ => ⟨δ, G, _, EX, sr, hr, h, fun c H1 G1 u1 h1 q1 => by
    cases c with
    | true => rw [if_pos rfl] at q1 ⊢; exact cr _ _ _ u1 h1 q1
    | false => rw [if_neg Bool.false_ne_true] at q1 ⊢; exact ⟨δ, G1, R, EX, sr.up u1, h1, q1, cr.up u1, cx.up u1⟩, cx⟩⟩
theorem pdt_not (ha : PDT X E a dA) : PDT X E (.UnaryOp .Not a pos) (dNot dA) :=
  ⟨imT (pt_not ha.pt) fun σ H Q ⟨δ, G, R, EX, sr, hr, h, cr, cx⟩ => ⟨δ, G, _, EX, sr, hr, h, fun c H1 G1 u1 h1 q1 => cr _ _ _ u1 h1 q1, cx⟩⟩
theorem PDW.pdt (h : PDW X E a dA) : PDT X E a dA := ⟨h.pw.pt⟩
def dAndV (da db : DE) : DE := fun δ G R EX => da δ G (blD fun c G1 => if c = true then db δ G1 R EX else R (.bl false) G1) EX
def dOrV (da db : DE) : DE := fun δ G R EX => da δ G (blD fun c G1 => if c = true then R (.bl true) G1 else db δ G1 R EX) EX
def dNotV (da : DE) : DE := fun δ G R EX => da δ G (blD fun c G1 => R (.bl (!c)) G1) EX
theorem pd_one {op} (h : PD X E a da) : PD X E (.BoolOp op [a] pos) da := ⟨pe_one h.pe⟩
theorem pd_and (ha : PD X E a da) (hb : PD X E (.BoolOp .And (b :: rest) pos) db) : PD X E (.BoolOp .And (a :: b :: rest) pos) (dAndV da db) :=
  ⟨imE (pe_and ha.pe hb.pe) fun σ H Q ⟨δ, G, R, EX, sr, hr, h, cr, cx⟩ => ⟨δ, G, _, EX, sr, hr, h, fun x H1 d G1 u1 h1 r1 q1 => by
    cases r1 with
    | bl c =>
      refine ⟨c, rfl, ?_⟩
      have q1 : if c = true then db δ G1 R EX else R (.bl false) G1 := q1
      cases c with
      | true => rw [if_pos rfl] at q1 ⊢; exact ⟨δ, G1, R, EX, sr.up u1, h1, q1, cr.up u1, cx.up u1⟩
      | false => rw [if_neg Bool.false_ne_true] at q1 ⊢; exact cr _ _ _ _ u1 h1 (.bl false) q1
    | _ => exact False.elim q1, cx⟩⟩
theorem pd_or (ha : PD X E a da) (hb : PD X E (.BoolOp .Or (b :: rest) pos) db) : PD X E (.BoolOp .Or (a :: b :: rest) pos) (dOrV da db) :=
  ⟨imE (pe_or ha.pe hb.pe) fun σ H Q ⟨δ, G, R, EX, sr, hr, h, cr, cx⟩ => ⟨δ, G, _, EX, sr, hr, h, fun x H1 d G1 u1 h1 r1 q1 => by
    cases r1 with
    | bl c =>
      refine ⟨c, rfl, ?_⟩
      have q1 : if c = true then R (.bl true) G1 else db δ G1 R EX := q1
      cases c with
      | true => rw [if_pos rfl] at q1 ⊢; exact cr _ _ _ _ u1 h1 (.bl true) q1
      | false => rw [if_neg Bool.false_ne_true] at q1 ⊢; exact ⟨δ, G1, R, EX, sr.up u1, h1, q1, cr.up u1, cx.up u1⟩
    | _ => exact False.elim q1, cx⟩⟩
theorem pd_not (ha : PD X E a da) : PD X E (.UnaryOp .Not a pos) (dNotV da) :=
  ⟨imE (pe_not ha.pe) fun σ H Q ⟨δ, G, R, EX, sr, hr, h, cr, cx⟩ => ⟨δ, G, _, EX, sr, hr, h, fun x H1 d G1 u1 h1 r1 q1 => by
    cases r1 with
    | bl c => exact ⟨c, rfl, cr _ _ _ _ u1 h1 (.bl _) q1⟩
    | _ => exact False.elim q1, cx⟩⟩
def dIf (t : DT) (da db : DE) : DE := fun δ G R EX => t δ G (fun c G1 => if c = true then da δ G1 R EX else db δ G1 R EX) EX
theorem pd_if (hc : PDT X E c dA) (ha : PD X E a da) (hb : PD X E b db) : PD X E (.IfExp c a b pos) (dIf dA da db) :=
  ⟨imE (pe_ifExp hc.pt ha.pe hb.pe) fun σ H Q ⟨δ, G, R, EX, sr, hr, h, cr, cx⟩ => ⟨δ, G, _, EX, sr, hr, h, fun c H1 G1 u1 h1 q1 => by
    cases c with
    | true => rw [if_pos rfl] at q1 ⊢; exact ⟨δ, G1, R, EX, sr.up u1, h1, q1, cr.up u1, cx.up u1⟩
    | false => rw [if_neg Bool.false_ne_true] at q1 ⊢; exact ⟨δ, G1, R, EX, sr.up u1, h1, q1, cr.up u1, cx.up u1⟩, cx⟩⟩
/-! arguments, displays -/
def dNil : DA := fun _ G R _ => R [] G
def dCons (da : DE) (dl : DA) : DA := fun δ G R EX => da δ G (fun x G1 => dl δ G1 (fun xs G2 => R (x :: xs) G2) EX) EX
theorem pda_nil : PDA X E [] dNil := ⟨imA pa_nil fun σ H Q ⟨δ, G, R, EX, sr, hr, h, cr, cx⟩ => cr _ _ _ _ (Up.refl H) hr .nil h⟩
theorem pda_cons (ha : PD X E e da) (hr : PDA X E es dl) (hs : starEach (e :: es) X.env = (false, eval e X.env) :: starEach es X.env := by rfl) : PDA X E (e :: es) (dCons da dl) :=
  ⟨imA (pa_cons ha.pe hr.pa hs) fun σ H Q ⟨δ, G, R, EX, sr, hr, h, cr, cx⟩ => ⟨δ, G, _, EX, sr, hr, h, fun x H1 d G1 u1 h1 r1 q1 => ⟨δ, G1, _, EX, sr.up u1, h1, q1, fun ys H2 es G2 u2 h2 r2 q2 => cr _ _ _ _ (u1.trans u2) h2 (.cons (r1.up u2) r2) q2, cx.up u1⟩, cx⟩⟩
def dTup (dl : DA) : DE := fun δ G R EX => dl δ G (fun xs G1 => xs.length ≤ sizeLine ∧ R (.tup xs) G1) EX
def dLst (dl : DA) : DE := fun δ G R EX => dl δ G (fun xs G1 => xs.length ≤ sizeLine ∧ ∀ p, G1 p = none → R (.ref p) (updD G1 p (.lst xs))) EX
theorem pd_tup {x1} (h : PDA X E es dl) : PD X E (.Tuple es x1 pos) (dTup dl) :=
  ⟨imE (pe_tup h.pa) fun σ H Q ⟨δ, G, R, EX, sr, hr, h, cr, cx⟩ => ⟨δ, G, _, EX, sr, hr, h, fun xs H1 l G1 u1 h1 r1 ⟨z, q1⟩ => ⟨by rw [r1.length]; exact z, fun p hp =>
    cr _ _ _ _ (u1.trans (Up.new hp)) (h1.new0 hp) (.tup (SqT.of upd_same) (r1.up (Up.new hp))) q1⟩, cx⟩⟩
theorem pd_lst (h : PDA X E es dl) : PD X E (.List es pos) (dLst dl) :=
  ⟨imE (pe_lst h.pa) fun σ H Q ⟨δ, G, R, EX, sr, hr, h, cr, cx⟩ => ⟨δ, G, _, EX, sr, hr, h, fun xs H1 l G1 u1 h1 r1 ⟨z, q1⟩ => ⟨by rw [r1.length]; exact z, fun p hp =>
    cr _ _ _ _ (u1.trans (Up.new hp)) (h1.new (c := .lst l) hp ⟨xs, upd_same, r1.up (Up.new hp)⟩) (.ref p) (q1 p (h1.none hp))⟩, cx⟩⟩
/-! calls -/
abbrev DC := List D → DH → DK → Prop
def LiftC (K : KT) (r : List V → Hp → VK → Prop) (r2 : DC) : Prop := ∀ x H d G R Q, HRel K G H → DvL K H x d → r2 d G R → CloR K H Q R → r x H Q
def dCB (r : DC) (dl : DA) : DE := fun δ G R EX => dl δ G (fun xs G1 => r xs G1 R) EX
theorem up_cb {r : List V → Hp → VK → Prop} {r2 : DC} (l : ∀ T, LiftC (X.K, T) r r2) {σ : L2.St} {H : Hp} {Q : VK} : up (kt X E) E.1 (dCB r2 dl) σ H Q → tCB r (upA (kt X E) E.1 dl) σ H Q := fun ⟨δ, G, R, EX, sr, hr, h, cr, cx⟩ => ⟨δ, G, _, EX, sr, hr, h, fun x H1 d G1 u1 h1 r1 q1 => l _ x H1 d G1 R Q h1 r1 q1 (cr.up u1), cx⟩
theorem pd_callB {id : String} {x : Str} {p : Pos} {r : List V → Hp → VK → Prop} {r2 : DC} (hc : CallR X (.builtin id) r) (l : ∀ T, LiftC (X.K, T) r r2) (hg : Gl X x) (hm : X.mg x = none) (hv : bootBuiltins x = some (.builtin id)) (ha : PDA X E (e :: es) dl) (hn : x ≠ "__name__" := by decide) (hdb : (x == ("__debug__" : Str)) = false := by decide)
    (he : starEach (e :: es) X.env = (false, eval e X.env) :: starEach es X.env := by rfl) (hpl : (backTo pos (starEach es X.env)).any (·.1) = false := by rfl) : PD X E (.Call (.Name x p) (e :: es) [] pos) (dCB r2 dl) :=
  ⟨imE (pe_callB hc hg hm hv ha.pa hn hdb (he := he) (hpl := hpl)) fun _ _ _ => up_cb l⟩
theorem pd_callTy {T : String} {x : Str} {p : Pos} {r : List V → Hp → VK → Prop} {r2 : DC} (hc : CallR X (.type T) r) (l : ∀ T, LiftC (X.K, T) r r2) (hg : Gl X x) (hm : X.mg x = none) (hv : bootBuiltins x = some (.type T)) (ha : PDA X E (e :: es) dl) (hn : x ≠ "__name__" := by decide) (hdb : (x == ("__debug__" : Str)) = false := by decide)
    (he : starEach (e :: es) X.env = (false, eval e X.env) :: starEach es X.env := by rfl) (hpl : (backTo pos (starEach es X.env)).any (·.1) = false := by rfl) : PD X E (.Call (.Name x p) (e :: es) [] pos) (dCB r2 dl) :=
  ⟨imE (pe_callTy hc hg hm hv ha.pa hn hdb (he := he) (hpl := hpl)) fun _ _ _ => up_cb l⟩
/-- a def of the module -/
def dCall (sd : SpD) (dl : DA) : DE := fun δ G R EX => dl δ G (fun xs G1 => sd xs G1 R EX) EX
theorem up_call {sd : SpD} {σ : L2.St} {H : Hp} {Q : VK} : up (kt X E) E.1 (dCall sd dl) σ H Q → tCall (upF (kt X E) sd) [] E.1 (upA (kt X E) E.1 dl) σ H Q := fun ⟨δ, G, R, EX, sr, hr, h, cr, cx⟩ =>
  ⟨δ, G, _, EX, sr, hr, h, fun x H1 d G1 u1 h1 r1 q1 => by show upF (kt X E) sd (x ++ []) H1 Q E.1; rw [List.append_nil]; exact ⟨d, G1, R, EX, r1, h1, q1, cr.up u1, cx.up u1⟩, cx⟩
theorem pd_call {CX : CXT} {k : Nat} {f : Addr} {fd : FuncData} {ps : List Str} {sd : SpD} {x : Str} {p : Pos} (F : FnOk X.prog X.w X.K X.mg X.base CX k f fd ps (upF (kt X E) sd)) (hr : Room k X.A) (hg : Gl X x) (hm : X.mg x = some (.ref f)) (hk : PySem.W.keepIn X.K (.ref f) = true) (hb : Binds X.K fd ps []) (hx : Passes CX X E.1)
    (ha : PDA X E (e :: es) dl) (hdb : (x == ("__debug__" : Str)) = false := by decide) (he : starEach (e :: es) X.env = (false, eval e X.env) :: starEach es X.env := by rfl) (hpl : (backTo pos (starEach es X.env)).any (·.1) = false := by rfl) :
    PD X E (.Call (.Name x p) (e :: es) [] pos) (dCall sd dl) := ⟨imE (pe_call F hr hg hm hk hb .nil hx ha.pa hdb he hpl) fun _ _ _ => up_call⟩
theorem pd_call0 {CX : CXT} {k : Nat} {f : Addr} {fd : FuncData} {ps : List Str} {sd : SpD} {x : Str} {p : Pos} (F : FnOk X.prog X.w X.K X.mg X.base CX k f fd ps (upF (kt X E) sd)) (hr : Room k X.A) (hg : Gl X x) (hm : X.mg x = some (.ref f)) (hk : PySem.W.keepIn X.K (.ref f) = true) (hb : Binds X.K fd ps []) (hx : Passes CX X E.1)
    (hdb : (x == ("__debug__" : Str)) = false := by decide) : PD X E (.Call (.Name x p) [] [] pos) (dCall sd dNil) := ⟨imE (pe_call0 F hr hg hm hk hb .nil hx hdb) fun σ H Q ⟨δ, G, R, EX, sr, hr, h, cr, cx⟩ => ⟨[], G, R, EX, .nil, hr, h, cr, cx⟩⟩
end
end Cc
/-! ### targets, statements, loops, comprehensions -/
namespace Cc
open PySem PySem.Spec PyProof.Rows L2
abbrev DG := D → DS → DH → (DS → DH → Prop) → DX → Prop
abbrev DGs := List D → DS → DH → (DS → DH → Prop) → DX → Prop
def upG (K : KT) (E : XK) (g : DG) : TG := fun v σ H Q => ∃ d δ G R EX, Dv K H v d ∧ SRel K H σ δ ∧ HRel K G H ∧ g d δ G R EX ∧ CloS K H Q R ∧ CloX K H E EX
def upGs (K : KT) (E : XK) (g : DGs) : TGs := fun v σ H Q => ∃ d δ G R EX, DvL K H v d ∧ SRel K H σ δ ∧ HRel K G H ∧ g d δ G R EX ∧ CloS K H Q R ∧ CloX K H E EX
structure PDG (X : Cx) (E : EK) (t : Expr) (g : DG) : Prop where
  pg : PG X t (upG (kt X E) E.1 g)
structure PDGs (X : Cx) (E : EK) (t : List Expr) (g : DGs) : Prop where
  pgs : PGs X t (upGs (kt X E) E.1 g)
theorem imG {X : Cx} {e : Expr} {t u : TG} (h : PG X e t) (k : ∀ v σ H Q, u v σ H Q → t v σ H Q) : PG X e u := ⟨fun pins s σ H v x Q I r q => h.run pins s σ H v x Q I r (k v σ H Q q)⟩
theorem imGs {X : Cx} {e : List Expr} {t u : TGs} (h : PGs X e t) (k : ∀ v σ H Q, u v σ H Q → t v σ H Q) : PGs X e u := ⟨fun pins s σ H v x Q I r q => h.run pins s σ H v x Q I r (k v σ H Q q)⟩
section
variable {X : Cx} {E : EK} {a b c e : Expr} {es rest : List Expr} {pos : Pos} {da db dc de : DE} {dA dB : DT} {dl : DA} {g : DG} {gs : DGs} {st : Stmt} {sts body : List Stmt} {t u : DSt}
def gN (i : Nat) : DG := fun d δ G R _ => R (δ.set i (some d)) G
def gsNil : DGs := fun ds δ G R _ => ds = [] ∧ R δ G
def gsCons (g : DG) (gs : DGs) : DGs := fun ds δ G R EX => match ds with
  | d :: r => g d δ G (fun δ1 G1 => gs r δ1 G1 R EX) EX
  | [] => False
def gT (n : Nat) (gs : DGs) : DG := fun d δ G R EX => match d.tl with
  | some l => l.length = n ∧ gs l δ G R EX
  | none => False
theorem up_gN {i : Nat} {v : V} {σ : L2.St} {H : Hp} {Q : L2.St → Hp → Prop} : upG (kt X E) E.1 (gN i) v σ H Q → gName i v σ H Q := fun ⟨d, δ, G, R, EX, dv, sr, hr, h, cr, cx⟩ => cr _ _ _ _ (Up.refl H) (sr.set dv) hr h
theorem pdg_name {i : Nat} {x : Str} (hN : X.N.Nodup) (hi : X.N[i]? = some x) (hx : Loc X.env.scope x) (hf : X.fn x = true ∨ X.env.scope.names.lookup x = some .local := by first | exact .inl rfl | exact .inr rfl | assumption) : PDG X E (.Name x pos) (gN i) :=
  ⟨imG (pg_name hN hi hx hf) fun _ _ _ _ => up_gN⟩
theorem pdgs_nil : PDGs X E [] gsNil := ⟨imGs pgs_nil fun v σ H Q ⟨d, δ, G, R, EX, dv, sr, hr, h, cr, cx⟩ => by
  obtain ⟨rfl, h⟩ := h
  cases dv
  exact ⟨rfl, cr _ _ _ _ (Up.refl H) sr hr h⟩⟩
theorem pdgs_cons (h1 : PDG X E e g) (h2 : PDGs X E es gs) (hs : (assignEach (e :: es) X.env).map (·.2) = assign e X.env :: (assignEach es X.env).map (·.2) := by rfl) : PDGs X E (e :: es) (gsCons g gs) :=
  ⟨imGs (pgs_cons h1.pg h2.pgs hs) fun v σ H Q ⟨d, δ, G, R, EX, dv, sr, hr, h, cr, cx⟩ => by
    cases dv with
    | nil => exact False.elim h
    | cons r rr => exact ⟨_, _, rfl, ⟨_, δ, G, _, EX, r, sr, hr, h, fun σ1 H1 δ1 G1 u1 s1 h1 q1 => ⟨_, δ1, G1, R, EX, rr.up u1, s1, h1, q1, cr.up u1, cx.up u1⟩, cx⟩⟩⟩
theorem pdg_tup {k n : Nat} (hc : X.calm = true) (h : PDGs X E es gs) (hn : (assignEach es X.env).length = n := by rfl) (hst : (assignEach es X.env).findIdx? (·.1) = none := by rfl) : PDG X E (.Tuple es k pos) (gT n gs) :=
  ⟨imG (pg_tup hc h.pgs hn hst) fun v σ H Q ⟨d, δ, G, R, EX, dv, sr, hr, h, cr, cx⟩ => by
    unfold gT at h
    split at h
    · rename_i l e
      obtain ⟨a, xs, rfl, hq, r⟩ := dv.sqT e
      exact ⟨_, _, rfl, hq, by rw [r.length]; exact h.1, _, δ, G, R, EX, r, sr, hr, h.2, cr, cx⟩
    · exact False.elim h⟩
/-- o[i] = .. -/
abbrev DSet := D → D → D → DH → (DH → Prop) → Prop
def LiftSet (K : KT) (t : TSet) (t2 : DSet) : Prop := ∀ o i v H d e f G (R : DH → Prop) (Q : Hp → Prop), HRel K G H → Dv K H o d → Dv K H i e → Dv K H v f → t2 d e f G R → (∀ H' G', Up H H' → HRel K G' H' → R G' → Q H') → t o i v H Q
def gS (da db : DE) (t : DSet) : DG := fun v δ G R EX => da δ G (fun o G1 => db δ G1 (fun i G2 => t o i v G2 fun G3 => R δ G3) EX) EX
theorem pdg_sub {t1 : TSet} {t2 : DSet} (hs : PSet X t1) (l : ∀ T, LiftSet (X.K, T) t1 t2) (ha : PD X E a da) (hb : PD X E b db)
    (hh : ∀ v, assign (.Subscript a b pos) X.env v = (do
      let ov ← holding [v] (eval a X.env)
      let iv ← holding [v, ov] (eval b X.env)
      standAt pos
      holding [v, ov, iv] (setItem ov iv v)
      release [v, ov, iv] []) := by intro _; rfl) : PDG X E (.Subscript a b pos) (gS da db t2) :=
  ⟨imG (pg_sub ha.pe hb.pe hs hh) fun v σ H Q ⟨d, δ, G, R, EX, dv, sr, hr, h, cr, cx⟩ =>
    ⟨δ, G, _, EX, sr, hr, h, fun o H1 d1 G1 u1 h1 r1 q1 => ⟨δ, G1, _, EX, sr.up u1, h1, q1, fun i H2 d2 G2 u2 h2 r2 q2 =>
      l _ o i v H2 d1 d2 d G2 _ _ h2 (r1.up u2) r2 (dv.up (u1.trans u2)) q2 fun H3 G3 u3 h3 q3 => cr _ _ _ _ (u1.trans (u2.trans u3)) (sr.up (u1.trans (u2.trans u3))) h3 q3, cx.up u1⟩, cx⟩⟩
/-! statements -/
def sAsg (da : DE) (g : DG) : DSt := fun D δ G => da δ G (fun x G1 => g x δ G1 D.nx D.ex) D.ex
theorem up_asg {σ : L2.St} {H : Hp} {Dn : Ends} : upS (kt X E) E.1 (sAsg da g) Dn σ H → tAsg (up (kt X E) E.1 da) (upG (kt X E) E.1 g) Dn σ H := fun ⟨δ, G, DD, sr, hr, h, cn, ct, cb, cc, cx⟩ =>
  ⟨δ, G, _, DD.ex, sr, hr, h, fun x H1 d G1 u1 h1 r1 q1 => ⟨d, δ, G1, DD.nx, DD.ex, r1, sr.up u1, h1, q1, cn.up u1, cx.up u1⟩, cx⟩
theorem pds_asg {tg : Expr} (he : PD X E e de) (hg : PDG X E tg g) (hs : swapsWithSole [tg] e pos.line X.env = pure false := by rfl) (hw : swappedStores [tg] e X.env = pure none := by rfl)
    (h1 : (assignEach [tg] X.env).map (·.2) = [assign tg X.env] := by rfl) : PDS X E (.Assign [tg] e pos) (sAsg de g) := ⟨imS (ps_asg he.pe hg.pg hs hw h1) fun _ _ _ => up_asg⟩
def sDrop (da : DE) : DSt := fun D δ G => da δ G (fun _ G1 => D.nx δ G1) D.ex
theorem pds_expr (he : PD X E e de) (hs : swapsWith e none pos.line X.env = pure false := by rfl) : PDS X E (.Expr e pos) (sDrop de) := ⟨imS (ps_expr he.pe hs) fun Dn σ H ⟨δ, G, DD, sr, hr, h, cn, ct, cb, cc, cx⟩ =>
  ⟨δ, G, _, DD.ex, sr, hr, h, fun x H1 d G1 u1 h1 r1 q1 => cn _ _ _ _ u1 (sr.up u1) h1 q1, cx⟩⟩
def sRet (da : DE) : DSt := fun D δ G => da δ G D.rt D.ex
theorem pds_ret (he : PD X E e de) : PDS X E (.Return (some e) pos) (sRet de) := ⟨imS (ps_ret he.pe) fun Dn σ H ⟨δ, G, DD, sr, hr, h, cn, ct, cb, cc, cx⟩ => ⟨δ, G, _, DD.ex, sr, hr, h, ct, cx⟩⟩
def sRetN : DSt := fun D _ G => D.rt .non G
theorem pds_retN : PDS X E (.Return none pos) sRetN := ⟨imS ps_retN fun Dn σ H ⟨δ, G, DD, sr, hr, h, cn, ct, cb, cc, cx⟩ => ct _ _ _ _ (Up.refl H) hr .non h⟩
def sNext : DSt := fun D δ G => D.nx δ G
theorem pds_pass : PDS X E (.Pass pos) sNext := ⟨imS ps_pass fun Dn σ H ⟨δ, G, DD, sr, hr, h, cn, ct, cb, cc, cx⟩ => cn _ _ _ _ (Up.refl H) sr hr h⟩
def sSeq (t u : DSt) : DSt := fun D δ G => t { D with nx := u D } δ G
theorem pdss_nil : PDSs X E [] sNext := ⟨imSs pss_nil fun Dn σ H ⟨δ, G, DD, sr, hr, h, cn, ct, cb, cc, cx⟩ => cn _ _ _ _ (Up.refl H) sr hr h⟩
theorem pdss_cons (h1 : PDS X E st t) (h2 : PDSs X E sts u) : PDSs X E (st :: sts) (sSeq t u) := ⟨imSs (pss_cons h1.ps h2.ps) fun Dn σ H ⟨δ, G, DD, sr, hr, h, cn, ct, cb, cc, cx⟩ =>
  ⟨δ, G, _, sr, hr, h, fun σ1 H1 δ1 G1 u1 s1 h1 q1 => ⟨δ1, G1, DD, s1, h1, q1, cn.up u1, ct.up u1, cb.up u1, cc.up u1, cx.up u1⟩, ct, cb, cc, cx⟩⟩
theorem pdss_one (h1 : PDS X E st t) : PDSs X E [st] t := ⟨pss_one h1.ps⟩
def sIf (c : DT) (t u : DSt) : DSt := fun D δ G => c δ G (fun b G1 => if b = true then t D δ G1 else u D δ G1) D.ex
theorem pds_if {ss : List Stmt} (hc : PDT X E c dA) (ha : PDSs X E sts t) (hb : PDSs X E ss u) : PDS X E (.If c sts ss pos) (sIf dA t u) := ⟨imS (ps_if hc.pt ha.ps hb.ps) fun Dn σ H ⟨δ, G, DD, sr, hr, h, cn, ct, cb, cc, cx⟩ =>
  ⟨δ, G, _, DD.ex, sr, hr, h, fun b H1 G1 u1 h1 q1 => by
    cases b with
    | true => rw [if_pos rfl] at q1 ⊢; exact ⟨δ, G1, DD, sr.up u1, h1, q1, cn.up u1, ct.up u1, cb.up u1, cc.up u1, cx.up u1⟩
    | false => rw [if_neg Bool.false_ne_true] at q1 ⊢; exact ⟨δ, G1, DD, sr.up u1, h1, q1, cn.up u1, ct.up u1, cb.up u1, cc.up u1, cx.up u1⟩, cx⟩⟩
/-! what is walked -/
structure SrcOk (K : KT) (J : It) (l : List D) (ok : DH → Prop) (H0 : Hp) : Prop where
  mono : ∀ G G' : DH, Sub G G' → ok G → ok G'
  at_ : ∀ (i : Nat) (H : Hp) (G : DH), Up H0 H → HRel K G H → ok G →
    (i < l.length → J.go i H ∧ ∀ x H', J.yld i H x H' → ∃ d, l[i]? = some d ∧ Up H H' ∧ HRel K G H' ∧ Dv K H' x d) ∧ (l.length ≤ i → J.stop i H)
abbrev DI := DS → DH → (List D → (DH → Prop) → DH → Prop) → DX → Prop
def upI (K : KT) (E : XK) (di : DI) : TI := fun σ H R => ∃ δ G RR EX, SRel K H σ δ ∧ HRel K G H ∧ di δ G RR EX ∧ (∀ J l ok H' G', Up H H' → HRel K G' H' → SrcOk K J l ok H' → RR l ok G' → R J H') ∧ CloX K H E EX
structure PDI (X : Cx) (E : EK) (tg iter : Expr) (di : DI) : Prop where
  pi : PI X tg iter (upI (kt X E) E.1 di)
theorem imI {X : Cx} {tg iter : Expr} {t u : TI} (h : PI X tg iter t) (k : ∀ σ H Q, u σ H Q → t σ H Q) : PI X tg iter u := ⟨fun pins s σ H Q I q => h.run pins s σ H Q I (k σ H Q q)⟩
/-- a tuple, or a list that stands still -/
def iSq (da : DE) : DI := fun δ G RR EX => da δ G (fun d G1 => match d with
  | .tup l => RR l (fun _ => True) G1
  | .key ks => RR (ks.map kD) (fun _ => True) G1
  | .rol l => RR l (fun _ => True) G1
  | .wol l => RR l (fun _ => True) G1
  | .ptp l => RR l (fun _ => True) G1
  | .ref a => ∃ l, G1 a = some (.lst l) ∧ RR l (fun G => G a = some (.lst l)) G1
  | _ => False) EX
theorem sqT_inj {K : KT} {H : Hp} {a : Addr} {xs ys : List V} (h : SqT K.1 H a xs) : True := trivial
theorem src_tup {K : KT} {H0 : Hp} {a : Addr} {xs : List V} {l : List D} (hq : SqT K.1 H0 a xs) (r : DvL K H0 xs l) : SrcOk K (Itt K.1 a) l (fun _ => True) H0 where
  mono := fun _ _ _ h => h
  at_ := fun i H G u hr _ => by
    refine ⟨fun hi => ?_, fun hi => ⟨xs, u.sqT hq, by rw [r.length]; exact hi⟩⟩
    have hx : i < xs.length := by rw [r.length]; exact hi
    refine ⟨⟨xs, xs[i], u.sqT hq, List.getElem?_eq_getElem hx⟩, fun x H' ⟨e, y⟩ => ?_⟩
    subst e
    obtain ⟨d, h1, h2⟩ := (r.up u).get' (y xs (u.sqT hq))
    exact ⟨d, h1, Up.refl _, hr, h2⟩
theorem src_rol {K : KT} {H0 : Hp} {a : Addr} {xs : List V} {l : List D} (hq : SqR K.1 H0 a xs) (r : DvL K H0 xs l) : SrcOk K (Itl K.1 a) l (fun _ => True) H0 where
  mono := fun _ _ _ h => h
  at_ := fun i H G u hr _ => by
    have q := (u.sqR hq).sqL
    refine ⟨fun hi => ?_, fun hi => ⟨xs, q, by rw [r.length]; exact hi⟩⟩
    have hx : i < xs.length := by rw [r.length]; exact hi
    refine ⟨⟨xs, xs[i], q, List.getElem?_eq_getElem hx⟩, fun x H' ⟨e, y⟩ => ?_⟩
    subst e
    obtain ⟨d, h1, h2⟩ := (r.up u).get' (y xs q)
    exact ⟨d, h1, Up.refl _, hr, h2⟩
theorem src_lst {K : KT} {H0 : Hp} {a : Addr} {l : List D} : SrcOk K (Itl K.1 a) l (fun G => G a = some (.lst l)) H0 where
  mono := fun _ _ s h => s _ _ h
  at_ := fun i H G u hr ok => by
    obtain ⟨xs, e, r⟩ := hr a _ ok
    have q : SqL K.1 H a xs := SqL.of e
    refine ⟨fun hi => ?_, fun hi => ⟨xs, q, by rw [r.length]; exact hi⟩⟩
    have hx : i < xs.length := by rw [r.length]; exact hi
    refine ⟨⟨xs, xs[i], q, List.getElem?_eq_getElem hx⟩, fun x H' ⟨e, y⟩ => ?_⟩
    subst e
    obtain ⟨d, h1, h2⟩ := r.get' (y xs q)
    exact ⟨d, h1, Up.refl _, hr, h2⟩
theorem pdi_seq {tg : Expr} (he : PD X E e de) : PDI X E tg e (iSq de) := by
  refine ⟨⟨fun pins s σ H R I h => ?_⟩⟩
  obtain ⟨δ, G, RR, EX, sr, hr, h, cr, cx⟩ := h
  -- what is walked decides between the two library rules: read the value first
  refine thn (he.pe.run pins s σ H (fun v H1 => (∃ a, v = .ref a ∧ (∃ xs, SqL X.K H1 a xs) ∧ R (Itl X.K a) H1) ∨ (∃ a, v = .ref a ∧ (∃ xs, SqT X.K H1 a xs) ∧ R (Itt X.K a) H1)) I ⟨δ, G, _, EX, sr, hr, h, fun v H1 d G1 u1 h1 r1 q1 => ?_, cx⟩) fun v s1 ⟨x, H1, I1, r1, q1⟩ => ?_
  · cases r1 with
    | tup hq r => exact .inr ⟨_, rfl, ⟨_, hq⟩, cr _ _ _ _ _ u1 h1 (src_tup hq r) q1⟩
    | key hq => exact .inr ⟨_, rfl, ⟨_, SqT.of hq⟩, cr _ _ _ _ _ u1 h1 (src_tup (SqT.of hq) (dvL_kD _)) q1⟩
    | rol hq r => exact .inl ⟨_, rfl, ⟨_, hq.sqL⟩, cr _ _ _ _ _ u1 h1 (src_rol (by obtain ⟨o, h⟩ := hq; exact .inl ⟨o, h⟩) r) q1⟩
    | wol hq r => exact .inl ⟨_, rfl, ⟨_, hq.sqL⟩, cr _ _ _ _ _ u1 h1 (src_rol hq r) q1⟩
    | ptp hq r =>
      obtain ⟨o, hq, _⟩ := hq
      exact .inr ⟨_, rfl, ⟨_, .inl (.inr ⟨o, hq⟩)⟩, cr _ _ _ _ _ u1 h1 (src_tup (.inl (.inr ⟨o, hq⟩)) r) q1⟩
    | ref a =>
      obtain ⟨l, e, q⟩ := q1
      obtain ⟨xs, e1, _⟩ := h1 a _ e
      exact .inl ⟨_, rfl, ⟨_, SqL.of e1⟩, cr _ _ _ _ _ u1 h1 src_lst q⟩
    | _ => exact False.elim q1
  · rcases q1 with ⟨a, e, ⟨xs, hq⟩, q⟩ | ⟨a, e, ⟨xs, hq⟩, q⟩
    · subst e
      cases r1
      obtain ⟨its, rv, p, hz⟩ := I1.list hq
      refine wpAny_pyIter_list p.isList ?_
      refine ⟨s1.heap.objs.size, [s1.heap.objs.size], _, _, H1, rfl, I1.kept (t' := s1.toks) fun b o e => Heap.get?_push_of_some _ e, turn_list a _, ⟨_, Heap.get?_push_size _ rfl, rfl, rfl⟩, fun b hb => ?_, q⟩
      have e : b = s1.heap.objs.size := by simpa using hb
      subst e
      exact I1.fpOk (Nat.le_refl _) (I1.hok.fresh (Nat.le_refl _))
    · subst e
      cases r1
      obtain ⟨its, rv, p, hz⟩ := I1.tuple hq
      refine wpAny_pyIter_tuple (show s1.heap.IsTuple a its.toArray from p) ?_
      refine ⟨s1.heap.objs.size, [s1.heap.objs.size], _, _, H1, rfl, I1.kept (t' := s1.toks) fun b o e => Heap.get?_push_of_some _ e, turn_tuple a _, ⟨_, Heap.get?_push_size _ rfl, rfl, rfl⟩, fun b hb => ?_, q⟩
      have e : b = s1.heap.objs.size := by simpa using hb
      subst e
      exact I1.fpOk (Nat.le_refl _) (I1.hok.fresh (Nat.le_refl _))
def rangeD (lo : Int) (n : Nat) : List D := (List.range n).map fun i => .int (lo + (i : Nat))
theorem src_range {K : KT} {H0 : Hp} {lo : Int} {n : Nat} : SrcOk K (Itr lo n) (rangeD lo n) (fun _ => True) H0 where
  mono := fun _ _ _ h => h
  at_ := fun i H G u hr _ => by
    have hl : (rangeD lo n).length = n := by unfold rangeD; rw [List.length_map, List.length_range]
    refine ⟨fun hi => ⟨by rw [hl] at hi; exact hi, fun x H' ⟨e, y⟩ => ?_⟩, fun hi => by rw [hl] at hi; exact hi⟩
    subst e y
    rw [hl] at hi
    refine ⟨_, ?_, Up.refl _, hr, .int _⟩
    unfold rangeD
    rw [List.getElem?_map, List.getElem?_range hi]
    rfl
/-- range(n), range(a, b) -/
def iRange1 (da : DE) : DI := fun δ G RR EX => da δ G (fun d G1 => match d with
  | .int j => (-(2 ^ 62) ≤ j ∧ j < 2 ^ 62) ∧ RR (rangeD 0 j.toNat) (fun _ => True) G1
  | _ => False) EX
def iRange2 (da db : DE) : DI := fun δ G RR EX => da δ G (fun d G1 => db δ G1 (fun e G2 => match d, e with
  | .int i, .int j => (-(2 ^ 62) ≤ i ∧ i < 2 ^ 62 ∧ -(2 ^ 62) ≤ j ∧ j < 2 ^ 62) ∧ RR (rangeD i (j - i).toNat) (fun _ => True) G2
  | _, _ => False) EX) EX
theorem pdi_range1 {tg : Expr} {p : Pos} (hg : Gl X "range") (hm : X.mg "range" = none) (ha : PD X E a da) (hs : starEach [a] X.env = [(false, eval a X.env)] := by rfl) (hs' : starEach (a :: []) X.env = (false, eval a X.env) :: starEach [] X.env := by rfl) : PDI X E tg (.Call (.Name "range" p) [a] [] pos) (iRange1 da) :=
  ⟨imI (pi_range1 hg hm (pa_cons ha.pe pa_nil hs') hs) fun σ H R ⟨δ, G, RR, EX, sr, hr, h, cr, cx⟩ => ⟨δ, G, _, EX, sr, hr, h, fun x H1 d G1 u1 h1 r1 q1 => by
    cases r1 with
    | int j => exact ⟨j, rfl, q1.1.1, q1.1.2, cr _ _ _ _ _ u1 h1 src_range q1.2⟩
    | _ => exact False.elim q1, cx⟩⟩
theorem pdi_range2 {tg : Expr} {p : Pos} (hg : Gl X "range") (hm : X.mg "range" = none) (ha : PD X E a da) (hb : PD X E b db) (hs : starEach [a, b] X.env = [(false, eval a X.env), (false, eval b X.env)] := by rfl) (hs2 : starEach [b] X.env = [(false, eval b X.env)] := by rfl)
    (hs' : starEach (a :: [b]) X.env = (false, eval a X.env) :: starEach [b] X.env := by rfl) (hs'' : starEach (b :: []) X.env = (false, eval b X.env) :: starEach [] X.env := by rfl) : PDI X E tg (.Call (.Name "range" p) [a, b] [] pos) (iRange2 da db) :=
  ⟨imI (pi_range2 hg hm (pa_cons ha.pe (pa_cons hb.pe pa_nil hs'') hs') hs hs2) fun σ H R ⟨δ, G, RR, EX, sr, hr, h, cr, cx⟩ => ⟨δ, G, _, EX, sr, hr, h, fun x H1 d G1 u1 h1 r1 q1 => ⟨δ, G1, _, EX, sr.up u1, h1, q1, fun y H2 e G2 u2 h2 r2 q2 => by
    cases r1 with
    | int i =>
      cases r2 with
      | int j => exact ⟨i, j, rfl, q2.1, cr _ _ _ _ _ (u1.trans u2) h2 src_range q2.2⟩
      | _ => exact False.elim q2
    | _ => exact False.elim q2, cx.up u1⟩, cx⟩⟩
def enumD (l : List D) : List D := (List.range l.length).map fun i => .tup [.int (i : Nat), l.getD i .non]
theorem enumD_length (l : List D) : (enumD l).length = l.length := by unfold enumD; rw [List.length_map, List.length_range]
theorem src_enum {K : KT} {H0 : Hp} {a : Addr} {l : List D} : SrcOk K (Ite K.1 a) (enumD l) (fun G => G a = some (.lst l)) H0 where
  mono := fun _ _ s h => s _ _ h
  at_ := fun i H G u hr ok => by
    obtain ⟨xs, e, r⟩ := hr a _ ok
    have q : SqL K.1 H a xs := SqL.of e
    rw [enumD_length]
    refine ⟨fun hi => ?_, fun hi => ⟨xs, q, by rw [r.length]; exact hi⟩⟩
    have hx : i < xs.length := by rw [r.length]; exact hi
    refine ⟨⟨xs, xs[i], q, List.getElem?_eq_getElem hx⟩, fun x H' y => ?_⟩
    obtain ⟨T, v, ex, nT, eH, hv⟩ := y
    subst ex eH
    obtain ⟨d, h1, h2⟩ := r.get' (hv xs q)
    refine ⟨.tup [.int (i : Nat), d], ?_, Up.new nT, hr.new0 nT, .tup (SqT.of upd_same) (.cons (.int _) (.cons (h2.up (Up.new nT)) .nil))⟩
    unfold enumD
    rw [List.getElem?_map, List.getElem?_range hi]
    simp only [Option.map_some]
    rw [List.getD_eq_getElem?_getD, h1]
    rfl
/-- enumerate(a list) -/
def iEnumD (da : DE) : DI := fun δ G RR EX => da δ G (fun d G1 => match d with
  | .ref a => ∃ l, G1 a = some (.lst l) ∧ RR (enumD l) (fun G => G a = some (.lst l)) G1
  | _ => False) EX
theorem pdi_enum {tg : List Expr} {kk : Nat} {tpos p : Pos} (hg : Gl X "enumerate") (hm : X.mg "enumerate" = none) (ha : PD X E a da) (hs : starEach [a] X.env = [(false, eval a X.env)] := by rfl) (hs' : starEach (a :: []) X.env = (false, eval a X.env) :: starEach [] X.env := by rfl) :
    PDI X E (.Tuple tg kk tpos) (.Call (.Name "enumerate" p) [a] [] pos) (iEnumD da) :=
  ⟨imI (pi_enum hg hm (pa_cons ha.pe pa_nil hs') hs) fun σ H R ⟨δ, G, RR, EX, sr, hr, h, cr, cx⟩ => ⟨δ, G, _, EX, sr, hr, h, fun x H1 d G1 u1 h1 r1 q1 => by
    cases r1 with
    | ref a =>
      obtain ⟨l, e, q⟩ := q1
      obtain ⟨xs, e1, _⟩ := h1 a _ e
      exact ⟨a, xs, rfl, SqL.of e1, cr _ _ _ _ _ u1 h1 src_enum q⟩
    | _ => exact False.elim q1, cx⟩⟩
/-! for -/
def goFor (ok : DH → Prop) (g : DG) (tb : DSt) (D : DEnds) : List Cc.D → DS → DH → Prop
  | [], δ, G => ok G ∧ D.nx δ G
  | x :: xs, δ, G => ok G ∧ g x δ G (fun δ2 G2 => tb { D with nx := goFor ok g tb D xs, ct := goFor ok g tb D xs, bk := D.nx } δ2 G2) D.ex
def sFor (di : DI) (g : DG) (tb : DSt) : DSt := fun D δ G => di δ G (fun l ok G1 => goFor ok g tb D l δ G1) D.ex
theorem up_for {di : DI} {Dn : Ends} {σ : L2.St} {H : Hp} : upS (kt X E) E.1 (sFor di g t) Dn σ H → tFor (upI (kt X E) E.1 di) (upG (kt X E) E.1 g) (upS (kt X E) E.1 t) Dn σ H := fun ⟨δ, G, DD, sr, hr, h, cn, ct, cb, cc, cx⟩ => by
  refine ⟨δ, G, _, DD.ex, sr, hr, h, fun J l ok H0 G0 u0 h0 so q0 => ?_, cx⟩
  have sr0 := sr.up u0
  refine ⟨fun i m σ H => m = l.length - i ∧ i ≤ l.length ∧ ∃ δ G, SRel (kt X E) H σ δ ∧ HRel (kt X E) G H ∧ Up H0 H ∧ goFor ok g t DD (l.drop i) δ G, ⟨l.length, by simp, Nat.zero_le _, δ, G0, sr0, h0, Up.refl _, by simpa using q0⟩, ?_⟩
  rintro i m σ1 H1 ⟨rfl, hi, δ1, G1, s1, h1, u1, q1⟩
  by_cases hlt : i < l.length
  · rw [List.drop_eq_getElem_cons hlt] at q1
    obtain ⟨k1, q1⟩ := q1
    obtain ⟨gx, yx⟩ := (so.at_ i H1 G1 u1 h1 k1).1 hlt
    refine .inr ⟨gx, fun σ2 H2 => ∃ δ2 G2, SRel (kt X E) H2 σ2 δ2 ∧ HRel (kt X E) G2 H2 ∧ Up H0 H2 ∧ goFor ok g t DD (l.drop (i + 1)) δ2 G2, fun σ2 H2 ⟨δ2, G2, a1, a2, a3, a4⟩ => ⟨l.length - (i + 1), by omega, rfl, hlt, δ2, G2, a1, a2, a3, a4⟩, fun x H2 y => ?_⟩
    obtain ⟨d, e1, u2, h2, r2⟩ := yx x H2 y
    rw [List.getElem?_eq_getElem hlt] at e1
    cases e1
    have u02 := u0.trans (u1.trans u2)
    refine ⟨_, δ1, G1, _, DD.ex, r2, s1.up u2, h2, q1, fun σ3 H3 δ3 G3 u3 s3 h3 q3 => ?_, cx.up u02⟩
    have u03 := u02.trans u3
    refine ⟨δ3, G3, _, s3, h3, q3, fun σ4 H4 δ4 G4 u4 s4 h4 q4 => ⟨δ4, G4, s4, h4, u1.trans (u2.trans (u3.trans u4)), q4⟩, ct.up u03, cn.up u03, fun σ4 H4 δ4 G4 u4 s4 h4 q4 => ⟨δ4, G4, s4, h4, u1.trans (u2.trans (u3.trans u4)), q4⟩, cx.up u03⟩
  · have e : i = l.length := by omega
    subst e
    rw [List.drop_length] at q1
    exact .inl ⟨(so.at_ _ H1 G1 u1 h1 q1.1).2 (Nat.le_refl _), cn _ _ _ _ (u0.trans u1) s1 h1 q1.2⟩
theorem pds_for {tg iter : Expr} {di : DI} (hp : PassesOwn (model X.prog X.w) X.A X.env X.xe) (hc : X.calm = true) (hi : PDI X E tg iter di) (hg : PDG X E tg g) (hb : PDSs X E body t)
    (hs : ∀ x, foldedSetIterable iter X.env x = pure x := by intro _; rfl) : PDS X E (.For tg iter body [] pos) (sFor di g t) := ⟨imS (ps_for hp hc hi.pi hg.pg hb.ps hs) fun _ _ _ => up_for⟩
end
end Cc
/-! ### comprehensions, slices, methods, objects -/
namespace Cc
open PySem PySem.Spec PyProof.Rows L2
abbrev noX : DX := fun _ _ _ => False
abbrev noE : XK := fun _ _ _ => False
theorem CloX.no {K : KT} {H : Hp} : CloX K H noE noX := fun _ _ _ _ _ _ h => h
theorem wipe_get {σ : L2.St} {i : Nat} : ∀ {vs : List Nat}, (wipe σ vs)[i]? = if i ∈ vs then (σ[i]?).map (fun _ => none) else σ[i]?
  | [] => by simp [wipe]
  | v :: vs => by
    unfold wipe
    by_cases hb : v = i
    · subst hb
      by_cases hl : v < σ.length
      · rw [List.getElem?_set_self (by rw [wipe_length]; exact hl), if_pos (List.mem_cons_self), List.getElem?_eq_getElem hl]
        rfl
      · rw [List.getElem?_eq_none (by rw [List.length_set, wipe_length]; omega), if_pos (List.mem_cons_self), List.getElem?_eq_none (by omega)]
        rfl
    · rw [List.getElem?_set_ne hb, wipe_get (vs := vs)]
      by_cases hm : i ∈ vs
      · rw [if_pos hm, if_pos (List.mem_cons_of_mem _ hm)]
      · rw [if_neg hm, if_neg (by simp only [List.mem_cons, not_or]; exact ⟨fun e => hb e.symm, hm⟩)]
theorem wipe_set {σ : L2.St} {i : Nat} {o : Option V} {vs : List Nat} (h : i ∈ vs) : wipe (σ.set i o) vs = wipe σ vs := by
  apply List.ext_getElem?
  intro j
  rw [wipe_get, wipe_get]
  by_cases hj : j ∈ vs
  · rw [if_pos hj, if_pos hj]
    by_cases hb : i = j
    · subst hb
      by_cases hl : i < σ.length
      · rw [List.getElem?_set_self hl, List.getElem?_eq_getElem hl]
        rfl
      · rw [List.getElem?_eq_none (by rw [List.length_set]; omega), List.getElem?_eq_none (by omega)]
    · rw [List.getElem?_set_ne hb]
  · rw [if_neg hj, if_neg hj, List.getElem?_set_ne (by intro e; subst e; exact hj h)]
theorem wipe_wipe {σ : L2.St} {vs : List Nat} : wipe (wipe σ vs) vs = wipe σ vs := by
  apply List.ext_getElem?
  intro j
  rw [wipe_get]
  by_cases hj : j ∈ vs
  · rw [if_pos hj, wipe_get, if_pos hj]
    cases σ[j]? <;> rfl
  · rw [if_neg hj]
def wipeD (δ : DS) : List Nat → DS
  | [] => δ
  | v :: vs => (wipeD δ vs).set v none
theorem SRel.setNone {K : KT} {H : Hp} {σ : L2.St} {δ : DS} {i : Nat} (h : SRel K H σ δ) : SRel K H (σ.set i none) (δ.set i none) := by
  refine ⟨by rw [List.length_set, List.length_set]; exact h.1, fun j d q => ?_⟩
  by_cases hb : i = j
  · subst hb
    by_cases hl : i < δ.length
    · rw [List.getElem?_set_self hl] at q; cases q
    · rw [List.getElem?_eq_none (by rw [List.length_set]; omega)] at q; cases q
  · rw [List.getElem?_set_ne hb] at q ⊢
    exact h.2 j d q
theorem SRel.wipe {K : KT} {H : Hp} {σ : L2.St} {δ : DS} (h : SRel K H σ δ) : ∀ vs : List Nat, SRel K H (L2.wipe σ vs) (wipeD δ vs)
  | [] => h
  | v :: vs => (SRel.wipe h vs).setNone
/-- a target of a comprehension: names of its own -/
def CT (vs : List Nat) (g : TG) : Prop := ∀ v σ H Q, g v σ H Q → g v σ H fun σ2 H2 => wipe σ2 vs = wipe σ vs ∧ Q σ2 H2
def CTs (vs : List Nat) (g : TGs) : Prop := ∀ v σ H Q, g v σ H Q → g v σ H fun σ2 H2 => wipe σ2 vs = wipe σ vs ∧ Q σ2 H2
section
variable {X : Cx} {E : EK} {a b c e : Expr} {es rest : List Expr} {pos : Pos} {da db dc de : DE} {dA dB : DT} {dl : DA} {g : DG} {gs : DGs} {st : Stmt} {sts body : List Stmt} {t u : DSt} {vs : List Nat}
structure PDTs (X : Cx) (E : EK) (ifs : List Expr) (t : DT) : Prop where
  ts : PTs X ifs (upT (kt X E) noE t)
def dYes : DT := fun _ G R _ => R true G
theorem pdts_nil : PDTs X E [] dYes := ⟨⟨fun pins s σ H Q I ⟨δ, G, R, EX, sr, hr, h, cr, cx⟩ => wpAny_tests_nil ⟨H, I, cr _ _ _ (Up.refl H) hr h⟩⟩⟩
theorem pdts_one (h : PDT X (noE, E.2) c dA) : PDTs X E [c] dA := ⟨pts_one h.pt⟩
/-- a comprehension over l, the new list at D -/
def goLc (ok : DH → Prop) (D : Addr) (g : DG) (tt : DT) (te : DE) (k : DH → Prop) (δ : DS) : List Cc.D → DH → Prop
  | [], G => ok G ∧ k G
  | x :: xs, G => ok G ∧ g x δ G (fun δ2 G2 => tt δ2 G2 (fun b G3 => if b = true then te δ2 G3 (fun y G4 => ∃ acc, G4 D = some (.lst acc) ∧ acc.length < sizeLine ∧ goLc ok D g tt te k δ xs (updD G4 D (.lst (acc ++ [y])))) noX else goLc ok D g tt te k δ xs G3) noX) noX
def dLc (di : DI) (g : DG) (tt : DT) (te : DE) (vs : List Nat) : DE := fun δ G R EX => di δ G (fun l ok G1 => ∀ D, G1 D = none → goLc ok D g tt te (fun G => R (.ref D) G) (wipeD δ vs) l (updD G1 D (.lst []))) EX
theorem up_lc {E : XK} {di : DI} {g0 : TG} {K : KT} (cg : CT vs g0) (lg : ∀ v σ H Q, upG K noE g v σ H Q → g0 v σ H Q) {σ : L2.St} {H : Hp} {Q : VK} : up K E (dLc di g dA de vs) σ H Q → tLc (upI K E di) g0 (upT K noE dA) (up K noE de) vs σ H Q := fun ⟨δ, G, R, EX, sr, hr, h, cr, cx⟩ => by
  refine ⟨δ, G, _, EX, sr, hr, h, fun J l ok H0 G0 u0 h0 so q0 => ?_, cx⟩
  intro D hD
  have sr0 := sr.up u0
  have uD : Up H0 (upd H0 D (.lst [])) := Up.new hD
  refine ⟨fun i m H => m = l.length - i ∧ i ≤ l.length ∧ ∃ G, HRel K G H ∧ Up H0 H ∧ goLc ok D g dA de (fun G => R (.ref D) G) (wipeD δ vs) (l.drop i) G, ⟨l.length, by simp, Nat.zero_le _, _, h0.new (c := .lst []) hD ⟨[], upd_same, .nil⟩, uD, by simpa using q0 D (h0.none hD)⟩, ?_⟩
  rintro i m H1 ⟨rfl, hi, G1, h1, u1, q1⟩
  by_cases hlt : i < l.length
  · rw [List.drop_eq_getElem_cons hlt] at q1
    obtain ⟨k1, q1⟩ := q1
    obtain ⟨gx, yx⟩ := (so.at_ i H1 G1 u1 h1 k1).1 hlt
    refine .inr ⟨gx, fun H2 => ∃ G2, HRel K G2 H2 ∧ Up H0 H2 ∧ goLc ok D g dA de (fun G => R (.ref D) G) (wipeD δ vs) (l.drop (i + 1)) G2, fun H2 ⟨G2, a2, a3, a4⟩ => ⟨l.length - (i + 1), by omega, rfl, hlt, G2, a2, a3, a4⟩, fun x H2 y => ?_⟩
    obtain ⟨d, e1, u2, h2, r2⟩ := yx x H2 y
    rw [List.getElem?_eq_getElem hlt] at e1
    cases e1
    have u12 := u1.trans u2
    have cw := cg x (wipe σ vs) H2 (fun σ3 H3 => upT K noE dA σ3 H3 fun b H4 => if b = true then up K noE de σ3 H4 fun y H5 => ∃ acc, H5 D = some (.lst acc) ∧ acc.length < sizeLine ∧ (∃ G2, HRel K G2 (upd H5 D (.lst (acc ++ [y]))) ∧ Up H0 (upd H5 D (.lst (acc ++ [y]))) ∧ goLc ok D g dA de (fun G => R (.ref D) G) (wipeD δ vs) (l.drop (i + 1)) G2) else (∃ G2, HRel K G2 H4 ∧ Up H0 H4 ∧ goLc ok D g dA de (fun G => R (.ref D) G) (wipeD δ vs) (l.drop (i + 1)) G2))
      (lg _ _ _ _ ⟨_, wipeD δ vs, G1, _, noX, r2, (sr0.up u12).wipe vs, h2, q1, fun σ3 H3 δ3 G3 u3 s3 h3 q3 => ⟨δ3, G3, _, noX, s3, h3, q3, fun b H4 G4 u4 h4 q4 => ?_, CloX.no⟩, CloX.no⟩)
    · rw [wipe_wipe] at cw
      exact cw
    · have u14 := u12.trans (u3.trans u4)
      cases b with
      | true =>
        rw [if_pos rfl] at q4
        refine iteT ?_
        refine ⟨δ3, G4, _, noX, s3.up u4, h4, q4, fun y H5 dy G5 u5 h5 r5 q5 => ?_, CloX.no⟩
        obtain ⟨acc, ea, hl, q5⟩ := q5
        obtain ⟨xs, ex, rx⟩ := h5 D _ ea
        have uw : Up H5 (upd H5 D (.lst (xs ++ [y]))) := Up.put ex trivial
        exact ⟨xs, ex, by rw [rx.length]; exact hl, _, h5.put (c := .lst (acc ++ [dy])) ex trivial ⟨_, upd_same, (rx.up uw).append (.cons (r5.up uw) .nil)⟩, (u14.trans u5).trans uw, q5⟩
      | false =>
        rw [if_neg Bool.false_ne_true] at q4
        refine iteF ?_
        exact ⟨G4, h4, u14, q4⟩
  · have e : i = l.length := by omega
    subst e
    rw [List.drop_length] at q1
    exact .inl ⟨(so.at_ _ H1 G1 u1 h1 q1.1).2 (Nat.le_refl _), cr _ _ _ _ (u0.trans u1) h1 (.ref D) q1.2⟩
/-- the block's parts: the target, the tests, the element -/
structure BlkP (X : Cx) (E : EK) (scope : Scope) (vs : List Nat) (tg elt : Expr) (ifs : List Expr) (g : DG) (tt : DT) (te : DE) : Prop where
  g : ∃ g0 : TG, CT vs g0 ∧ (∀ v σ H Q, upG (kt X E) noE g v σ H Q → g0 v σ H Q) ∧ ∀ (s : Shared) (H : Hp) (C : Addr) (cl : List (Str × Addr)) (fp : List Addr), PG (X.blk s H scope (compEnvC scope cl C X.env) fp) tg g0
  t : ∀ (s : Shared) (H : Hp) (C : Addr) (cl : List (Str × Addr)) (fp : List Addr), PDTs (X.blk s H scope (compEnvC scope cl C X.env) fp) E ifs tt
  e : ∀ (s : Shared) (H : Hp) (C : Addr) (cl : List (Str × Addr)) (fp : List Addr), PD (X.blk s H scope (compEnvC scope cl C X.env) fp) (noE, E.2) elt te
theorem pd_lc {elt tg iter : Expr} {ifs : List Expr} {scope : Scope} {own : List (Str × Nat)} {di : DI} {tt : DT} {te : DE} (hc : X.calm = true) (hN : X.N.Nodup) (hi : PDI X E tg iter di) (ok : BlkOk X.N X.env.scope scope own)
    (B : BlkP X E scope (own.map (·.2)) tg elt ifs g tt te) (hs : ∀ x, foldedSetIterable iter X.env x = pure x := by intro _; rfl) : PD X E (.ListComp elt [⟨tg, iter, ifs, 0⟩] scope pos) (dLc di g tt te (own.map (·.2))) := by
  obtain ⟨g0, c0, l0, p0⟩ := B.g
  exact ⟨imE (pe_lc hc hN hi.pi ok p0 (fun s H C cl fp => (B.t s H C cl fp).ts) (fun s H C cl fp => (B.e s H C cl fp).pe) hs) fun _ _ _ => up_lc c0 l0⟩
theorem pds_setLc {i : Nat} {y : Str} {py spos : Pos} {elt tg iter : Expr} {ifs : List Expr} {scope : Scope} {own : List (Str × Nat)} {di : DI} {tt : DT} {te : DE} (hc : X.calm = true) (hN : X.N.Nodup) (hy : X.N[i]? = some y) (hyl : X.env.scope.names.lookup y = some .local)
    (hsw : swapsWith (.ListComp elt [⟨tg, iter, ifs, 0⟩] scope pos) (some (.Name y py)) spos.line X.env = pure true) (hi : PDI X E tg iter di) (ok : BlkOk X.N X.env.scope scope own)
    (B : BlkP X E scope (own.map (·.2)) tg elt ifs g tt te) (hs : ∀ x, foldedSetIterable iter X.env x = pure x := by intro _; rfl) : PDS X E (.Assign [.Name y py] (.ListComp elt [⟨tg, iter, ifs, 0⟩] scope pos) spos) (sAsg (dLc di g tt te (own.map (·.2))) (gN i)) := by
  obtain ⟨g0, c0, l0, p0⟩ := B.g
  refine ⟨imS (ps_setLc (te := up (kt X E) noE te) (tt := upT (kt X E) noE tt) hc hN hy hyl hsw hi.pi ok p0 (fun s H C cl fp => (B.t s H C cl fp).ts) (fun s H C cl fp => (B.e s H C cl fp).pe) hs) fun Dn σ H ⟨δ, G, DD, sr, hr, h, cn, ct, cb, cc, cx⟩ => ?_⟩
  exact up_lc c0 l0 ⟨δ, G, _, DD.ex, sr, hr, h, fun v H1 d G1 u1 h1 r1 q1 => cn _ _ _ _ u1 ((sr.up u1).set r1) h1 q1, cx⟩
end
end Cc
/-! ### what the operators do with data -/
namespace Cc
open PySem PySem.Spec PyProof.Rows L2
/-- a two-place operation on data -/
def OD (X : Cx) (f : Value → Value → Sem Value) (r2 : D2) : Prop := ∃ r : R2, OpR X f r ∧ ∀ T, Lift2 (X.K, T) r r2
def IxD (X : Cx) (r2 : D2) : Prop := ∃ r : R2, IxR X r ∧ ∀ T, Lift2 (X.K, T) r r2
def CD (X : Cx) (f : Value) (r2 : DC) : Prop := ∃ r, CallR X f r ∧ ∀ T, LiftC (X.K, T) r r2
section
variable {X : Cx} {E : EK} {a b c e : Expr} {es : List Expr} {pos : Pos} {da db dc : DE} {dl : DA} {r2 s2 : D2}
theorem pd_bin {op : Operator} (h : OD X (binaryOp op) r2) (ha : PD X E a da) (hb : PD X E b db) : PD X E (.BinOp a op b pos) (dOp r2 da db) := by
  obtain ⟨r, ho, l⟩ := h
  exact pd_op ho l ha hb
theorem pd_cp {op : CmpOp} (h : OD X (compareOp op) r2) (ha : PD X E a da) (hb : PD X E b db) (hm : behindInMarks op b = false := by first | exact nomark _ (by decide) (by decide) | rfl) : PD X E (.Compare a [op] [b] pos) (dOp r2 da db) := by
  obtain ⟨r, ho, l⟩ := h
  exact pd_cmp ho l ha hb hm
theorem pdt_cp {op : CmpOp} (h : OD X (compareOp op) r2) (ha : PD X E a da) (hb : PD X E b db) (hm : behindInMarks op b = false := by first | exact nomark _ (by decide) (by decide) | rfl) : PDT X E (.Compare a [op] [b] pos) (dTest (dOp r2 da db)) := by
  obtain ⟨r, ho, l⟩ := h
  exact pdt_cmp ho l ha hb hm
theorem pd_cp2 {op op' : CmpOp} (h : OD X (compareOp op) r2) (h' : OD X (compareOp op') s2) (ha : PD X E a da) (hb : PD X E b db) (hc : PD X E c dc) (hm : lastMarks [op, op'] [b, c] = false := by with_unfolding_all rfl) : PD X E (.Compare a [op, op'] [b, c] pos) (dChain r2 s2 da db dc) := by
  obtain ⟨r, ho, l⟩ := h
  obtain ⟨r', ho', l'⟩ := h'
  exact pd_chain ho l ho' l' ha hb hc hm
theorem pdt_cp2 {op op' : CmpOp} (h : OD X (compareOp op) r2) (h' : OD X (compareOp op') s2) (ha : PD X E a da) (hb : PD X E b db) (hc : PD X E c dc) (hm : lastMarks [op, op'] [b, c] = false := by with_unfolding_all rfl) : PDT X E (.Compare a [op, op'] [b, c] pos) (dTest (dChain r2 s2 da db dc)) := by
  obtain ⟨r, ho, l⟩ := h
  obtain ⟨r', ho', l'⟩ := h'
  exact pdt_chain ho l ho' l' ha hb hc hm
theorem pd_sub (h : IxD X r2) (ha : PD X E a da) (hb : PD X E b db) (hs : PlainIx b := by intro _ _; rfl) : PD X E (.Subscript a b pos) (dOp r2 da db) := by
  obtain ⟨r, ho, l⟩ := h
  exact pd_ix ho l ha hb hs
theorem pd_blt {id : String} {x : Str} {p : Pos} {r2 : DC} (h : CD X (.builtin id) r2) (hm : X.mg x = none) (hv : bootBuiltins x = some (.builtin id)) (ha : PDA X E (e :: es) dl) (hg : Gl X x := by rfl) (hn : x ≠ "__name__" := by decide) (hdb : (x == ("__debug__" : Str)) = false := by decide)
    (he : starEach (e :: es) X.env = (false, eval e X.env) :: starEach es X.env := by rfl) (hpl : (backTo pos (starEach es X.env)).any (·.1) = false := by rfl) : PD X E (.Call (.Name x p) (e :: es) [] pos) (dCB r2 dl) := by
  obtain ⟨r, ho, l⟩ := h
  exact pd_callB ho l hg hm hv ha hn hdb he hpl
theorem pd_btt {T : String} {x : Str} {p : Pos} {r2 : DC} (h : CD X (.type T) r2) (hm : X.mg x = none) (hv : bootBuiltins x = some (.type T)) (ha : PDA X E (e :: es) dl) (hg : Gl X x := by rfl) (hn : x ≠ "__name__" := by decide) (hdb : (x == ("__debug__" : Str)) = false := by decide)
    (he : starEach (e :: es) X.env = (false, eval e X.env) :: starEach es X.env := by rfl) (hpl : (backTo pos (starEach es X.env)).any (·.1) = false := by rfl) : PD X E (.Call (.Name x p) (e :: es) [] pos) (dCB r2 dl) := by
  obtain ⟨r, ho, l⟩ := h
  exact pd_callTy ho l hg hm hv ha hn hdb he hpl
end
/-! operators -/
theorem Lift2.or {K : KT} {r s : R2} {r2 s2 : D2} (h : Lift2 K r r2) (h' : Lift2 K s s2) : Lift2 K (fun x y H Q => r x y H Q ∨ s x y H Q) (fun x y G R => r2 x y G R ∨ s2 x y G R) := fun x y H d e G R Q a b c q cr => by
  rcases q with q | q
  · exact .inl (h x y H d e G R Q a b c q cr)
  · exact .inr (h' x y H d e G R Q a b c q cr)
theorem Lift2.imp {K : KT} {r : R2} {r2 s2 : D2} (h : Lift2 K r r2) (k : ∀ d e G R, s2 d e G R → r2 d e G R) : Lift2 K r s2 := fun x y H d e G R Q a b c q cr => h x y H d e G R Q a b c (k _ _ _ _ q) cr
section
variable {X : Cx}
def dAdd : D2 := fun x y G R => match x, y with
  | .int i, .int j => R (.int (i + j)) G
  | .str s, .str t => s.length + t.length ≤ sizeLine ∧ R (.str (s ++ t)) G
  | .ref p, .ref q => ∃ l m, G p = some (.lst l) ∧ G q = some (.lst m) ∧ l.length + m.length ≤ sizeLine ∧ ∀ n, G n = none → R (.ref n) (updD G n (.lst (l ++ m)))
  | x, y => match x.tl, y.tl with
    | some l, some m => l.length + m.length ≤ sizeLine ∧ ((l = [] → R y G) ∧ (l ≠ [] → m = [] → R x G) ∧ (l ≠ [] → m ≠ [] → R (.tup (l ++ m)) G))
    | _, _ => False
theorem tup_cat {K : KT} {H : Hp} {x y : V} {d e : D} {l m : List D} {G : DH} {R : DK} {Q : VK} (hr : HRel K G H) (rx : Dv K H x d) (ry : Dv K H y e) (e1 : d.tl = some l) (e2 : e.tl = some m) (z : l.length + m.length ≤ sizeLine)
    (q : (l = [] → R e G) ∧ (l ≠ [] → m = [] → R d G) ∧ (l ≠ [] → m ≠ [] → R (.tup (l ++ m)) G)) (cr : CloR K H Q R) : rCatA K.1 x y H Q := by
  obtain ⟨a, xs, rfl, ha, ra⟩ := rx.sqT e1
  obtain ⟨b, ys, rfl, hb, rb⟩ := ry.sqT e2
  have nl : xs = [] ↔ l = [] := by rw [← List.length_eq_zero_iff, ← List.length_eq_zero_iff, ra.length]
  have nm : ys = [] ↔ m = [] := by rw [← List.length_eq_zero_iff, ← List.length_eq_zero_iff, rb.length]
  refine ⟨a, b, xs, ys, rfl, rfl, ha, hb, by rw [ra.length, rb.length]; exact z, fun h => cr _ _ _ _ (Up.refl H) hr ry (q.1 (nl.mp h)), fun h h' => cr _ _ _ _ (Up.refl H) hr rx (q.2.1 (fun z => h (nl.mpr z)) (nm.mp h')), fun h h' p hp => ?_⟩
  exact cr _ _ _ _ (Up.new hp) (hr.new0 hp) (.tup (SqT.of upd_same) ((ra.append rb).up (Up.new hp))) (q.2.2 (fun z => h (nl.mpr z)) (fun z => h' (nm.mpr z)))
theorem od_add : OD X (binaryOp .Add) dAdd := by
  refine ⟨_, op_add.or (op_add_str.or (op_cat.or op_catA)), fun T x y H d e G R Q hr rx ry q cr => ?_⟩
  unfold dAdd at q
  split at q
  · cases rx
    cases ry
    exact .inl ⟨_, _, rfl, rfl, cr _ _ _ _ (Up.refl H) hr (.int _) q⟩
  · cases rx
    cases ry
    exact .inr (.inl ⟨_, _, rfl, rfl, q.1, cr _ _ _ _ (Up.refl H) hr (.str _) q.2⟩)
  · cases rx
    cases ry
    obtain ⟨l, m, e1, e2, z, q⟩ := q
    obtain ⟨xs, a1, a2⟩ := hr _ _ e1
    obtain ⟨ys, b1, b2⟩ := hr _ _ e2
    exact .inr (.inr (.inl ⟨_, _, xs, ys, rfl, rfl, a1, b1, by rw [a2.length, b2.length]; exact z, fun p hp => cr _ _ _ _ (Up.new hp) (hr.new (c := .lst (l ++ m)) hp ⟨_, upd_same, (a2.append b2).up (Up.new hp)⟩) (.ref p) (q p (hr.none hp))⟩))
  · split at q
    · rename_i l m e1 e2
      exact .inr (.inr (.inr (tup_cat hr rx ry e1 e2 q.1 q.2 cr)))
    · exact False.elim q
def dSub : D2 := fun x y G R => match x, y with
  | .int i, .int j => R (.int (i - j)) G
  | _, _ => False
theorem lift_I {K : KT} {C : Int → Int → Prop} {g : Int → Int → V} {g2 : Int → Int → D} (hg : ∀ i j H, Dv K H (g i j) (g2 i j)) : Lift2 K (rI C g) (fun x y G R => match x, y with
  | .int i, .int j => C i j ∧ R (g2 i j) G
  | _, _ => False) := fun x y H d e G R Q hr rx ry q cr => by
  dsimp only at q
  split at q
  · cases rx
    cases ry
    exact ⟨_, _, rfl, rfl, q.1, cr _ _ _ _ (Up.refl H) hr (hg _ _ H) q.2⟩
  · exact False.elim q
theorem lift_I0 {K : KT} {g : Int → Int → V} {g2 : Int → Int → D} (hg : ∀ i j H, Dv K H (g i j) (g2 i j)) : Lift2 K (rI0 g) (fun x y G R => match x, y with
  | .int i, .int j => R (g2 i j) G
  | _, _ => False) := fun x y H d e G R Q hr rx ry q cr => by
  dsimp only at q
  split at q
  · cases rx
    cases ry
    exact ⟨_, _, rfl, rfl, cr _ _ _ _ (Up.refl H) hr (hg _ _ H) q⟩
  · exact False.elim q
theorem od_sub : OD X (binaryOp .Sub) dSub := ⟨_, op_sub, fun _ => lift_I0 fun _ _ _ => .int _⟩
def dMul : D2 := fun x y G R => match x, y with
  | .int i, .int j => CMul i j ∧ R (.int (i * j)) G
  | .ref p, .int k => ∃ l, G p = some (.lst l) ∧ -(2 ^ 63) ≤ k ∧ k < 2 ^ 63 ∧ l.length * k.toNat ≤ sizeLine ∧ ∀ n, G n = none → R (.ref n) (updD G n (.lst (List.replicate k.toNat l).flatten))
  | _, _ => False
theorem DvL.rep {K : KT} {H : Hp} {v : List V} {d : List D} (h : DvL K H v d) : ∀ k : Nat, DvL K H (List.replicate k v).flatten (List.replicate k d).flatten
  | 0 => .nil
  | k + 1 => by rw [List.replicate_succ, List.replicate_succ, List.flatten_cons, List.flatten_cons]; exact h.append (DvL.rep h k)
theorem od_mul : OD X (binaryOp .Mult) dMul := by
  refine ⟨_, op_mul.or op_rep, fun T x y H d e G R Q hr rx ry q cr => ?_⟩
  unfold dMul at q
  split at q
  · cases rx
    cases ry
    exact .inl ⟨_, _, rfl, rfl, q.1, cr _ _ _ _ (Up.refl H) hr (.int _) q.2⟩
  · cases rx
    cases ry
    obtain ⟨l, e1, h1, h2, z, q⟩ := q
    obtain ⟨xs, a1, a2⟩ := hr _ _ e1
    exact .inr ⟨_, _, xs, rfl, rfl, a1, h1, h2, by rw [a2.length]; exact z, fun p hp => cr _ _ _ _ (Up.new hp) (hr.new (c := .lst _) hp ⟨_, upd_same, (a2.rep _).up (Up.new hp)⟩) (.ref p) (q p (hr.none hp))⟩
  · exact False.elim q
def dFdiv : D2 := fun x y G R => match x, y with
  | .int i, .int j => CDiv i j ∧ R (.int (i / j)) G
  | _, _ => False
theorem od_fdiv : OD X (binaryOp .FloorDiv) dFdiv := ⟨_, op_fdiv, fun _ => lift_I fun _ _ _ => .int _⟩
def dMod : D2 := fun x y G R => match x, y with
  | .int i, .int j => 0 < j ∧ R (.int (i % j)) G
  | _, _ => False
theorem od_mod : OD X (binaryOp .Mod) dMod := ⟨_, op_mod, fun _ => lift_I fun _ _ _ => .int _⟩
def dPow : D2 := fun x y G R => match x, y with
  | .int i, .int j => CPow i j ∧ R (.int (i ^ j.toNat)) G
  | _, _ => False
theorem od_pow : OD X (binaryOp .Pow) dPow := ⟨_, op_pow, fun _ => lift_I fun _ _ _ => .int _⟩
def dLt : D2 := fun x y G R => match x, y with
  | .int i, .int j => R (.bl (decide (i < j))) G
  | _, _ => False
theorem od_lt : OD X (compareOp .Lt) dLt := ⟨_, op_lt, fun _ => lift_I0 fun _ _ _ => .bl _⟩
def dLe : D2 := fun x y G R => match x, y with
  | .int i, .int j => R (.bl (decide (i ≤ j))) G
  | _, _ => False
theorem od_le : OD X (compareOp .LtE) dLe := ⟨_, op_le, fun _ => lift_I0 fun _ _ _ => .bl _⟩
def dGt : D2 := fun x y G R => match x, y with
  | .int i, .int j => R (.bl (decide (j < i))) G
  | _, _ => False
theorem od_gt : OD X (compareOp .Gt) dGt := ⟨_, op_gt, fun _ => lift_I0 fun _ _ _ => .bl _⟩
def dGe : D2 := fun x y G R => match x, y with
  | .int i, .int j => R (.bl (decide (j ≤ i))) G
  | _, _ => False
theorem od_ge : OD X (compareOp .GtE) dGe := ⟨_, op_ge, fun _ => lift_I0 fun _ _ _ => .bl _⟩
/-! is None -/
def D.isN : D → Bool
  | .non => true
  | _ => false
theorem Dv.isN {K : KT} {H : Hp} {v : V} {d : D} (h : Dv K H v d) : decide (v = V.non) = d.isN := by cases h <;> simp [D.isN]
def dIsN : D2 := fun x y G R => match y with
  | .non => R (.bl x.isN) G
  | _ => False
theorem od_isN : OD X (compareOp .Is) dIsN := ⟨_, op_isN, fun T x y H d e G R Q hr rx ry q cr => by
  unfold dIsN at q
  split at q
  · cases ry
    refine ⟨rfl, cr _ _ _ _ (Up.refl H) hr (.bl _) ?_⟩
    rw [rx.isN]; exact q
  · exact False.elim q⟩
def dNotN : D2 := fun x y G R => match y with
  | .non => R (.bl (!x.isN)) G
  | _ => False
theorem od_notN : OD X (compareOp .IsNot) dNotN := ⟨_, op_notN, fun T x y H d e G R Q hr rx ry q cr => by
  unfold dNotN at q
  split at q
  · cases ry
    refine ⟨rfl, cr _ _ _ _ (Up.refl H) hr (.bl _) ?_⟩
    rw [rx.isN]; exact q
  · exact False.elim q⟩
/-! == : what reads as data -/
mutual
inductive Rdd (G : DH) : D → PyData → Prop
  | non : Rdd G .non .none
  | bl (b : Bool) : Rdd G (.bl b) (.bool b)
  | int (i : Int) : Rdd G (.int i) (.int i)
  | str (x : Str) : Rdd G (.str x) (.str x)
  | tup {d : D} {l : List D} {ts : List PyData} : d.tl = some l → RddL G l ts → Rdd G d (.tuple ts)
  | rol {l : List D} {ts : List PyData} : RddL G l ts → Rdd G (.rol l) (.list ts)
  | lst {a : Addr} {l : List D} {ts : List PyData} : G a = some (.lst l) → RddL G l ts → Rdd G (.ref a) (.list ts)
inductive RddL (G : DH) : List D → List PyData → Prop
  | nil : RddL G [] []
  | cons {d : D} {ds : List D} {t : PyData} {ts : List PyData} : Rdd G d t → RddL G ds ts → RddL G (d :: ds) (t :: ts)
end
mutual
theorem Rdd.dp {K : KT} {G : DH} {H : Hp} (hr : HRel K G H) : ∀ {d : D} {t : PyData} {v : V}, Rdd G d t → Dv K H v d → Dp K.1 H v t
  | _, _, _, .non, r => by cases r; exact .non
  | _, _, _, .bl b, r => by cases r; exact .bl b
  | _, _, _, .int i, r => by cases r; exact .int i
  | _, _, _, .str x, r => by cases r; exact .str x
  | _, _, _, .tup e s, r => by
    obtain ⟨a, xs, rfl, hq, ra⟩ := r.sqT e
    exact .tup hq (RddL.dp hr s ra)
  | _, _, _, .rol s, r => by
    cases r with
    | rol hq ra => exact .lst hq.sqL (RddL.dp hr s ra)
  | _, _, _, .lst e s, r => by
    cases r
    obtain ⟨xs, e1, ra⟩ := hr _ _ e
    exact .lst (SqL.of e1) (RddL.dp hr s ra)
theorem RddL.dp {K : KT} {G : DH} {H : Hp} (hr : HRel K G H) : ∀ {d : List D} {t : List PyData} {v : List V}, RddL G d t → DvL K H v d → DpAll K.1 H v t
  | _, _, _, .nil, r => by cases r; exact .nil
  | _, _, _, .cons h s, r => by
    cases r with
    | cons r1 r2 => exact .cons (Rdd.dp hr h r1) (RddL.dp hr s r2)
end
/-- == of two values that read as data -/
def dEqG (x y : D) (G : DH) (R : Bool → Prop) : Prop := ∃ t u, Rdd G x t ∧ Rdd G y u ∧ SeqAt.shaped t = true ∧ SeqAt.shaped u = true ∧ R (PyData.eqv t u)
def dEq : D2 := fun x y G R => match x, y with
  | .int i, .int j => R (.bl (decide (i = j))) G
  | .str s, .str t => R (.bl (decide (s = t))) G
  | .bl b, .bl c => R (.bl (decide (b = c))) G
  | x, y => dEqG x y G fun k => R (.bl k) G
def dNe : D2 := fun x y G R => match x, y with
  | .int i, .int j => R (.bl (!decide (i = j))) G
  | .str s, .str t => R (.bl (!decide (s = t))) G
  | .bl b, .bl c => R (.bl (!decide (b = c))) G
  | x, y => dEqG x y G fun k => R (.bl (!k)) G
theorem dec_i {i j : Int} : decide (V.int i = V.int j) = decide (i = j) := decide_eq_decide.mpr ⟨fun h => V.int.inj h, fun h => congrArg _ h⟩
theorem dec_s {i j : Str} : decide (V.str i = V.str j) = decide (i = j) := decide_eq_decide.mpr ⟨fun h => V.str.inj h, fun h => congrArg _ h⟩
theorem dec_b {i j : Bool} : decide (V.bl i = V.bl j) = decide (i = j) := decide_eq_decide.mpr ⟨fun h => V.bl.inj h, fun h => congrArg _ h⟩
theorem od_eq (hu : X.A.units + 64 < cLine) : OD X (compareOp .Eq) dEq := ⟨_, op_eq.or (op_eqD hu), fun T x y H d e G R Q hr rx ry q cr => by
  unfold dEq at q
  split at q
  · cases rx
    cases ry
    refine .inl ⟨rfl, cr _ _ _ _ (Up.refl H) hr (.bl _) ?_⟩
    rw [dec_i]; exact q
  · cases rx
    cases ry
    refine .inl ⟨rfl, cr _ _ _ _ (Up.refl H) hr (.bl _) ?_⟩
    rw [dec_s]; exact q
  · cases rx
    cases ry
    refine .inl ⟨rfl, cr _ _ _ _ (Up.refl H) hr (.bl _) ?_⟩
    rw [dec_b]; exact q
  · obtain ⟨t, u, h1, h2, h3, h4, q⟩ := q
    exact .inr ⟨t, u, h1.dp hr rx, h2.dp hr ry, h3, h4, cr _ _ _ _ (Up.refl H) hr (.bl _) q⟩⟩
theorem od_ne (hu : X.A.units + 64 < cLine) : OD X (compareOp .NotEq) dNe := ⟨_, op_ne.or (op_neD hu), fun T x y H d e G R Q hr rx ry q cr => by
  unfold dNe at q
  split at q
  · cases rx
    cases ry
    refine .inl ⟨rfl, cr _ _ _ _ (Up.refl H) hr (.bl _) ?_⟩
    rw [dec_i]; exact q
  · cases rx
    cases ry
    refine .inl ⟨rfl, cr _ _ _ _ (Up.refl H) hr (.bl _) ?_⟩
    rw [dec_s]; exact q
  · cases rx
    cases ry
    refine .inl ⟨rfl, cr _ _ _ _ (Up.refl H) hr (.bl _) ?_⟩
    rw [dec_b]; exact q
  · obtain ⟨t, u, h1, h2, h3, h4, q⟩ := q
    exact .inr ⟨t, u, h1.dp hr rx, h2.dp hr ry, h3, h4, cr _ _ _ _ (Up.refl H) hr (.bl _) q⟩⟩
/-! subscripts -/
def D.ky : D → Option Key
  | .int i => some (.inl i)
  | .str s => some (.inr s)
  | _ => none
def lookK {κ : Type} [DecidableEq κ] (kvs : List (κ × D)) (k : κ) : Option D := (kvs.find? fun p => decide (p.1 = k)).map (·.2)
def itemOf (G : DH) (x y : D) : Option D := match x with
  | .str z => (match y with
    | .int i => if z.length ≤ sizeLine then (atI z.cps.toList i).map fun c => .str ⟨#[c]⟩ else none
    | _ => none)
  | .ref a => (match G a with
    | some (.lst l) => (match y with
      | .int i => atI l i
      | _ => none)
    | some (.dK kvs) => y.ky.bind (lookK kvs)
    | some (.dT kvs) => (match y with
      | .key ks => lookK kvs ks
      | _ => none)
    | _ => none)
  | .rol l => (match y with
    | .int i => atI l i
    | _ => none)
  | .tup l => (match y with
    | .int i => atI l i
    | _ => none)
  | .key ks => (match y with
    | .int i => atI (ks.map kD) i
    | _ => none)
  | .ptp l => (match y with
    | .int i => atI l i
    | _ => none)
  | _ => none
def dIx : D2 := fun x y G R => match itemOf G x y with
  | some d => R d G
  | none => False
theorem DvL.atI {K : KT} {H : Hp} {v : List V} {d : List D} {i : Int} {x : D} (r : DvL K H v d) (e : L2.atI d i = some x) : ∃ u, L2.atI v i = some u ∧ Dv K H u x := by
  unfold L2.atI at e ⊢
  rw [r.length]
  cases q : ixN d.length i with
  | none => rw [q] at e; cases e
  | some j =>
    rw [q] at e
    exact r.get (show d[j]? = some x from e)
theorem KVr.look {K : KT} {H : Hp} {κ : Type} [DecidableEq κ] {xs : List (κ × V)} {ys : List (κ × D)} {k : κ} : KVr K H xs ys → ∀ {d : D}, lookK ys k = some d → ∃ v, valV xs k = some v ∧ Dv K H v d := fun r => by
  induction r with
  | nil => intro d e; cases e
  | @cons p q l m h t ih =>
    intro d e
    unfold lookK at e
    rw [List.find?_cons] at e
    by_cases hk : q.1 = k
    · rw [decide_eq_true hk] at e
      cases e
      exact ⟨_, valV_pos (h.1.trans hk), h.2⟩
    · rw [decide_eq_false hk] at e
      obtain ⟨v, e1, e2⟩ := ih e
      exact ⟨v, by rw [valV_neg (fun z => hk (h.1 ▸ z))]; exact e1, e2⟩
theorem KVr.lookN {K : KT} {H : Hp} {κ : Type} [DecidableEq κ] {xs : List (κ × V)} {ys : List (κ × D)} {k : κ} : KVr K H xs ys → lookK ys k = none → valV xs k = none := fun r => by
  induction r with
  | nil => intro e; rfl
  | @cons p q l m h t ih =>
    intro e
    unfold lookK at e
    rw [List.find?_cons] at e
    by_cases hk : q.1 = k
    · rw [decide_eq_true hk] at e
      cases e
    · rw [decide_eq_false hk] at e
      rw [valV_neg (fun z => hk (h.1 ▸ z))]
      exact ih e
theorem ky_v {K : KT} {H : Hp} {v : V} {d : D} {k : Key} (h : Dv K H v d) (e : d.ky = some k) : v = kV k := by
  cases h <;> cases e <;> rfl
theorem ix_dict (hu : X.A.units + 1 < cLine) : IxR X (fun x y H Q => ∃ a v, x = .ref a ∧ DGet H a y (some v) ∧ Q v H) := by
  intro value slice pins s σ H x y v u Q I rx ry h hs
  obtain ⟨a, w', ex, g, q⟩ := h
  subst ex
  cases rx
  exact tail_any (dict_typeIs I g) PySem.F.slot_dict_getitem.lookup (d_getItem hu I g ry fun w2 s' I' r' => ⟨w', H, I', r', q⟩) hs
theorem ixd (hu : X.A.units + 1 < cLine) : IxD X dIx := ⟨_, ix_seq.or (ix_dict hu), fun T x y H d e G R Q hr rx ry q cr => by
  unfold dIx at q
  split at q
  · rename_i r er
    unfold itemOf at er
    split at er
    · cases rx
      split at er
      · cases ry
        split at er
        · rename_i z i hl
          rw [Option.map_eq_some_iff] at er
          obtain ⟨c, e1, e2⟩ := er
          subst e2
          exact .inl (.inr (.inr ⟨_, _, c, rfl, rfl, hl, e1, cr _ _ _ _ (Up.refl H) hr (.str _) q⟩))
        · cases er
      · cases er
    · cases rx
      split at er
      · rename_i a l ea
        split at er
        · cases ry
          obtain ⟨xs, e1, r1⟩ := hr _ _ ea
          obtain ⟨u, e2, r2⟩ := r1.atI er
          exact .inl (.inl ⟨_, xs, _, u, rfl, rfl, SqL.of e1, e2, cr _ _ _ _ (Up.refl H) hr r2 q⟩)
        · cases er
      · rename_i a kvs ea
        obtain ⟨k, e1, e2⟩ := Option.bind_eq_some_iff.mp er
        obtain ⟨ys, e3, r3⟩ := hr _ _ ea
        obtain ⟨u, e4, r4⟩ := r3.look e2
        rw [ky_v ry e1]
        refine .inr ⟨_, u, rfl, ?_, cr _ _ _ _ (Up.refl H) hr r4 q⟩
        rw [← e4]
        exact DGet.k e3
      · rename_i a kvs ea
        split at er
        · cases ry with
          | key eb =>
            obtain ⟨ys, e3, r3⟩ := hr _ _ ea
            obtain ⟨u, e4, r4⟩ := r3.look er
            refine .inr ⟨_, u, rfl, ?_, cr _ _ _ _ (Up.refl H) hr r4 q⟩
            rw [← e4]
            exact DGet.t e3 eb
        · cases er
      · cases er
    · split at er
      · cases ry
        cases rx with
        | rol hq r1 =>
          obtain ⟨u, e2, r2⟩ := r1.atI er
          exact .inl (.inl ⟨_, _, _, u, rfl, rfl, hq.sqL, e2, cr _ _ _ _ (Up.refl H) hr r2 q⟩)
      · cases er
    · split at er
      · cases ry
        cases rx with
        | tup hq r1 =>
          obtain ⟨u, e2, r2⟩ := r1.atI er
          exact .inl (.inr (.inl ⟨_, _, _, u, rfl, rfl, hq, e2, cr _ _ _ _ (Up.refl H) hr r2 q⟩))
      · cases er
    · split at er
      · cases ry
        cases rx with
        | key hq =>
          obtain ⟨u, e2, r2⟩ := (dvL_kD (K := (X.K, T)) (H := H) _).atI er
          exact .inl (.inr (.inl ⟨_, _, _, u, rfl, rfl, SqT.of hq, e2, cr _ _ _ _ (Up.refl H) hr r2 q⟩))
      · cases er
    · split at er
      · cases ry
        cases rx with
        | ptp hq r1 =>
          obtain ⟨o, hq, _⟩ := hq
          obtain ⟨u, e2, r2⟩ := r1.atI er
          exact .inl (.inr (.inl ⟨_, _, _, u, rfl, rfl, .inl (.inr ⟨o, hq⟩), e2, cr _ _ _ _ (Up.refl H) hr r2 q⟩))
      · cases er
    · cases er
  · exact False.elim q⟩
end
end Cc
/-! ### built-ins, methods of built-in types, stores -/
namespace Cc
open PySem PySem.Spec PyProof.Rows L2
/-! in, not in -/
def D.flat : D → Bool
  | .non => true
  | .bl _ => true
  | .int _ => true
  | .str _ => true
  | _ => false
def eqF : D → D → Bool
  | .non, .non => true
  | .bl a, .bl b => a == b
  | .bl a, .int b => (if a then 1 else 0) == b
  | .int a, .bl b => a == (if b then 1 else 0)
  | .int a, .int b => a == b
  | .str a, .str b => a == b
  | _, _ => false
def inF (x : D) (l : List D) : Bool := l.any fun y => eqF y x
section
variable {K : KT} {H : Hp}
theorem Dv.flat {v : V} {d : D} (h : Dv K H v d) (f : d.flat = true) : flatV v = true := by cases h <;> first | rfl | cases f
theorem Dv.eqF {v u : V} {d e : D} (h : Dv K H v d) (h' : Dv K H u e) (f : d.flat = true) (f' : e.flat = true) : eqV v u = Cc.eqF d e := by
  cases h <;> first | cases f; done | (cases h' <;> first | rfl | cases f')
theorem DvL.flat : ∀ {v : List V} {d : List D}, DvL K H v d → d.all D.flat = true → v.all flatV = true
  | _, _, .nil, _ => rfl
  | _, _, .cons h r, f => by
    rw [List.all_cons, Bool.and_eq_true] at f ⊢
    exact ⟨h.flat f.1, DvL.flat r f.2⟩
theorem DvL.inF {u : V} {e : D} (h' : Dv K H u e) (f' : e.flat = true) : ∀ {v : List V} {d : List D}, DvL K H v d → d.all D.flat = true → inV u v = Cc.inF e d
  | _, _, .nil, _ => rfl
  | _, _, .cons h r, f => by
    rw [List.all_cons, Bool.and_eq_true] at f
    have ih := DvL.inF h' f' r f.2
    unfold inV Cc.inF at ih ⊢
    rw [List.any_cons, List.any_cons, h.eqF h' f.1 f', ih]
end
/-- what y holds, as a sequence -/
def seqOf (G : DH) (y : D) : Option (List D) := match y with
  | .ref a => (match G a with
    | some (.lst l) => some l
    | _ => none)
  | .rol l => some l
  | y => y.tl
theorem seqOf_sq {K : KT} {G : DH} {H : Hp} {v : V} {y : D} {l : List D} (hr : HRel K G H) (r : Dv K H v y) (e : seqOf G y = some l) : ∃ p xs, v = .ref p ∧ (SqL K.1 H p xs ∨ SqT K.1 H p xs) ∧ DvL K H xs l := by
  unfold seqOf at e
  split at e
  · cases r
    split at e
    · rename_i a l' ea
      cases e
      obtain ⟨xs, h1, h2⟩ := hr _ _ ea
      exact ⟨_, xs, rfl, .inl (SqL.of h1), h2⟩
    · cases e
  · cases e
    cases r with
    | rol hq h2 => exact ⟨_, _, rfl, .inl hq.sqL, h2⟩
  · obtain ⟨a, xs, h1, h2, h3⟩ := r.sqT e
    exact ⟨a, xs, h1, .inr h2, h3⟩
/-- the answer of x in y -/
def inOf (G : DH) (x y : D) : Option Bool := match y with
  | .str z => (match x with
    | .str c => if c.cps.size = 1 then some (decide (c.cps.toList.headD 0 ∈ z.cps.toList)) else none
    | _ => none)
  | .ref a => (match G a with
    | some (.lst l) => if x.flat && l.all D.flat then some (inF x l) else none
    | some (.dK kvs) => x.ky.map fun k => (lookK kvs k).isSome
    | some (.dT kvs) => (match x with
      | .key ks => some (lookK kvs ks).isSome
      | _ => none)
    | _ => none)
  | y => (match seqOf G y with
    | some l => if x.flat && l.all D.flat then some (inF x l) else none
    | none => none)
def dIn : D2 := fun x y G R => match inOf G x y with
  | some b => R (.bl b) G
  | none => False
def dNotIn : D2 := fun x y G R => match inOf G x y with
  | some b => R (.bl (!b)) G
  | none => False
theorem str1 {c : Str} (h : c.cps.size = 1) : c = ⟨#[c.cps.toList.headD 0]⟩ := by
  obtain ⟨⟨l⟩⟩ := c
  match l, h with
  | [x], _ => rfl
theorem KVr.lookS {K : KT} {H : Hp} {κ : Type} [DecidableEq κ] {xs : List (κ × V)} {ys : List (κ × D)} {k : κ} (r : KVr K H xs ys) : (valV xs k).isSome = (lookK ys k).isSome := by
  cases e : lookK ys k with
  | none =>
    rw [r.lookN e]
    rfl
  | some d =>
    obtain ⟨v, h, _⟩ := r.look e
    rw [h]
    rfl
section
variable {X : Cx}
theorem in_cases (hu : X.A.units + 1 < cLine) (neg : Bool) : ∃ r : R2, OpR X (compareOp (if neg then .NotIn else .In)) r ∧ ∀ (T : List (Addr × Str)) x y H d e G b Q, HRel (X.K, T) G H → Dv (X.K, T) H x d → Dv (X.K, T) H y e → inOf G d e = some b → Q (.bl (if neg then !b else b)) H → r x y H Q := by
  have dict : OpR X (compareOp (if neg then .NotIn else .In)) (fun x y H Q => ∃ a o, y = .ref a ∧ DGet H a x o ∧ Q (.bl (if neg then !o.isSome else o.isSome)) H) := by
    intro pins s σ H x y v u Q I rx ry h
    obtain ⟨a, o, ey, g, q⟩ := h
    subst ey
    cases ry
    cases neg with
    | false => exact d_in hu I g rx fun s' I' => ⟨.bl _, H, I', rfl, q⟩
    | true => exact d_notIn hu I g rx fun s' I' => ⟨.bl _, H, I', rfl, q⟩
  have sq : OpR X (compareOp (if neg then .NotIn else .In)) (rIn X.K neg) := by
    cases neg with
    | false => exact op_in_seq
    | true => exact op_notIn_seq
  have st : OpR X (compareOp (if neg then .NotIn else .In)) (fun x y H Q => ∃ (c : Nat) (z : Str), x = .str ⟨#[c]⟩ ∧ y = .str z ∧ Q (.bl (if neg then !decide (c ∈ z.cps.toList) else decide (c ∈ z.cps.toList))) H) := by
    cases neg with
    | false => exact op_in_sign
    | true => exact op_notIn_sign
  refine ⟨_, sq.or (st.or dict), fun T x y H d e G b Q hr rx ry q h => ?_⟩
  unfold inOf at q
  split at q
  · cases ry
    split at q
    · cases rx
      split at q
      · rename_i c hc
        cases q
        refine .inr (.inl ⟨_, _, congrArg V.str (str1 hc), rfl, h⟩)
      · cases q
    · cases q
  · cases ry
    split at q
    · rename_i a l ea
      split at q
      · rename_i hf
        cases q
        rw [Bool.and_eq_true] at hf
        obtain ⟨xs, h1, h2⟩ := hr _ _ ea
        refine .inl ⟨_, xs, rfl, .inl (SqL.of h1), rx.flat hf.1, h2.flat hf.2, ?_⟩
        rw [h2.inF rx hf.1 hf.2]
        exact h
      · cases q
    · rename_i a kvs ea
      rw [Option.map_eq_some_iff] at q
      obtain ⟨k, e1, e2⟩ := q
      obtain ⟨ys, h1, h2⟩ := hr _ _ ea
      rw [ky_v rx e1]
      refine .inr (.inr ⟨_, _, rfl, DGet.k h1, ?_⟩)
      rw [h2.lookS, e2]
      exact h
    · rename_i a kvs ea
      split at q
      · cases rx with
        | key eb =>
          cases q
          obtain ⟨ys, h1, h2⟩ := hr _ _ ea
          refine .inr (.inr ⟨_, _, rfl, DGet.t h1 eb, ?_⟩)
          rw [h2.lookS]
          exact h
      · cases q
    · cases q
  · split at q
    · rename_i l el
      split at q
      · rename_i hf
        cases q
        rw [Bool.and_eq_true] at hf
        obtain ⟨p, xs, e1, e2, h2⟩ := seqOf_sq hr ry el
        refine .inl ⟨p, xs, e1, e2, rx.flat hf.1, h2.flat hf.2, ?_⟩
        rw [h2.inF rx hf.1 hf.2]
        exact h
      · cases q
    · cases q
theorem od_in (hu : X.A.units + 1 < cLine) : OD X (compareOp .In) dIn := by
  obtain ⟨r, h1, h2⟩ := in_cases (X := X) hu false
  refine ⟨r, h1, fun T x y H d e G R Q hr rx ry q cr => ?_⟩
  unfold dIn at q
  split at q
  · rename_i b eb
    exact h2 T x y H d e G b Q hr rx ry eb (cr _ _ _ _ (Up.refl H) hr (.bl _) q)
  · exact False.elim q
theorem od_notIn (hu : X.A.units + 1 < cLine) : OD X (compareOp .NotIn) dNotIn := by
  obtain ⟨r, h1, h2⟩ := in_cases (X := X) hu true
  refine ⟨r, h1, fun T x y H d e G R Q hr rx ry q cr => ?_⟩
  unfold dNotIn at q
  split at q
  · rename_i b eb
    exact h2 T x y H d e G b Q hr rx ry eb (cr _ _ _ _ (Up.refl H) hr (.bl _) q)
  · exact False.elim q
/-! built-ins -/
def lenOf (G : DH) (x : D) : Option Nat := match x with
  | .str z => if z.length ≤ sizeLine then some z.length else none
  | .ref a => (match G a with
    | some (.lst l) => some l.length
    | some (.dK l) => some l.length
    | _ => none)
  | x => (seqOf G x).map (·.length)
def dLen : DC := fun xs G R => match xs with
  | [x] => (match lenOf G x with
    | some n => R (.int n) G
    | none => False)
  | _ => False
theorem call_lenDK : CallR X (.builtin "len") (fun xs H Q => ∃ a kvs, xs = [V.ref a] ∧ H a = some (.dK kvs) ∧ Q (.int kvs.length) H) := by
  intro pins s σ H xs us Q I r h
  obtain ⟨a, kvs, rfl, e, q⟩ := h
  obtain ⟨u, rfl, ru⟩ := vals1 r
  cases ru
  exact d_len I (.inl e) fun t s' I' => ⟨.int _, H, I', ⟨t, rfl⟩, q⟩
theorem cd_len : CD X (.builtin "len") dLen := ⟨_, call_len.or call_lenDK, fun T x H d G R Q hr r q cr => by
  unfold dLen at q
  split at q
  · cases r with
    | cons r1 r2 =>
      cases r2
      split at q
      · rename_i x n e
        have q' := cr (.int n) H _ G (Up.refl H) hr (.int _) q
        unfold lenOf at e
        split at e
        · cases r1
          split at e
          · rename_i hz
            cases e
            exact .inl ⟨_, _, rfl, ⟨hz, rfl⟩, q'⟩
          · cases e
        · cases r1
          split at e
          · rename_i a l ea
            cases e
            obtain ⟨xs, h1, h2⟩ := hr _ _ ea
            exact .inl ⟨_, _, rfl, .inl ⟨xs, SqL.of h1, h2.length.symm⟩, q'⟩
          · rename_i a l ea
            cases e
            obtain ⟨xs, h1, h2⟩ := hr _ _ ea
            refine .inr ⟨_, xs, rfl, h1, ?_⟩
            rw [Paired.length h2]
            exact q'
          · cases e
        · rw [Option.map_eq_some_iff] at e
          obtain ⟨l, e1, e2⟩ := e
          subst e2
          obtain ⟨p, xs, e3, e4, h2⟩ := seqOf_sq hr r1 e1
          subst e3
          rcases e4 with e4 | e4
          · exact .inl ⟨_, _, rfl, .inl ⟨xs, e4, h2.length.symm⟩, q'⟩
          · exact .inl ⟨_, _, rfl, .inr ⟨xs, e4, h2.length.symm⟩, q'⟩
      · exact False.elim q
  · exact False.elim q⟩
/-- a value's type's name -/
def tyD (G : DH) : D → Option String
  | .non => some "NoneType"
  | .bl _ => some "bool"
  | .int _ => some "int"
  | .str _ => some "str"
  | .tup _ => some "tuple"
  | .key _ => some "tuple"
  | .rol _ => some "list"
  | .ref a => (match G a with
    | some (.lst _) => some "list"
    | some (.dK _) => some "dict"
    | some (.dT _) => some "dict"
    | _ => none)
  | .ty _ => none
  | .rod _ => none
  | .wol _ => none
  | .ptp _ => some "tuple"
def dIsi : DC := fun xs G R => match xs with
  | [x, .ty T] => (match tyD G x with
    | some t => (match kitB t T with
      | some b => R (.bl b) G
      | none => False)
    | none => False)
  | _ => False
theorem tyX_of {K : KT} {G : DH} {H : Hp} {v : V} {d : D} {t : String} (hr : HRel K G H) (r : Dv K H v d) (e : tyD G d = some t) : TyX K.1 H v (.type t) := by
  have tupT : ∀ {a : Addr} {xs : List V}, SqT K.1 H a xs → TyX K.1 H (.ref a) (.type "tuple") := fun {a xs} h => by
    rcases h with (h | ⟨o, h⟩) | ⟨o, its, n, h1, h2, h3⟩
    · exact .base (.tup h)
    · exact .fTuple h
    · exact .kTuple h1 h2
  cases r with
  | non => cases e; exact .base .non
  | bl b => cases e; exact .base (.bl b)
  | int i => cases e; exact .base (.int i)
  | str x => cases e; exact .base (.str x)
  | ty n => cases e
  | rod _ _ => cases e
  | wol _ _ => cases e
  | tup h _ => cases e; exact tupT h
  | ptp h _ => cases e; obtain ⟨o, h, _⟩ := h; exact tupT (.inl (.inr ⟨o, h⟩))
  | key h => cases e; exact tupT (SqT.of h)
  | rol h _ =>
    cases e
    obtain ⟨o, h⟩ := h
    exact .base (.frz h)
  | ref a =>
    unfold tyD at e
    dsimp only at e
    split at e
    · rename_i l ea
      cases e
      obtain ⟨xs, h1, _⟩ := hr _ _ ea
      exact .base (.lst h1)
    · rename_i l ea
      cases e
      obtain ⟨xs, h1, _⟩ := hr _ _ ea
      exact .base (.dK h1)
    · rename_i l ea
      cases e
      obtain ⟨xs, h1, _⟩ := hr _ _ ea
      exact .base (.dT h1)
    · cases e
theorem cd_isi : CD X (.builtin "isinstance") dIsi := ⟨_, call_isi, fun T x H d G R Q hr r q cr => by
  unfold dIsi at q
  split at q
  · cases r with
    | cons r1 r2 =>
      cases r2 with
      | cons r2 r3 =>
        cases r3
        cases r2
        split at q
        · rename_i t et
          split at q
          · rename_i b eb
            exact ⟨_, _, .type t, _, b, rfl, .ty _, tyX_of hr r1 et, kit_ty eb, cr _ _ _ _ (Up.refl H) hr (.bl _) q⟩
          · exact False.elim q
        · exact False.elim q
  · exact False.elim q⟩
def dAbs : DC := fun xs G R => match xs with
  | [.int i] => R (.int (if i < 0 then -i else i)) G
  | _ => False
theorem cd_abs : CD X (.builtin "abs") dAbs := ⟨_, call_abs, fun T x H d G R Q hr r q cr => by
  unfold dAbs at q
  split at q
  · cases r with
    | cons r1 r2 =>
      cases r2
      cases r1
      exact ⟨_, rfl, cr _ _ _ _ (Up.refl H) hr (.int _) q⟩
  · exact False.elim q⟩
def dMax2 : DC := fun xs G R => match xs with
  | [.int i, .int j] => R (.int (if j > i then j else i)) G
  | _ => False
theorem cd_max2 (hc : X.calm = true) : CD X (.builtin "max") dMax2 := ⟨_, call_max2 hc, fun T x H d G R Q hr r q cr => by
  unfold dMax2 at q
  split at q
  · cases r with
    | cons r1 r2 =>
      cases r2 with
      | cons r2 r3 =>
        cases r3
        cases r1
        cases r2
        exact ⟨_, _, rfl, cr _ _ _ _ (Up.refl H) hr (.int _) q⟩
  · exact False.elim q⟩
def dMin2 : DC := fun xs G R => match xs with
  | [.int i, .int j] => R (.int (if j < i then j else i)) G
  | _ => False
theorem cd_min2 (hc : X.calm = true) : CD X (.builtin "min") dMin2 := ⟨_, call_min2 hc, fun T x H d G R Q hr r q cr => by
  unfold dMin2 at q
  split at q
  · cases r with
    | cons r1 r2 =>
      cases r2 with
      | cons r2 r3 =>
        cases r3
        cases r1
        cases r2
        exact ⟨_, _, rfl, cr _ _ _ _ (Up.refl H) hr (.int _) q⟩
  · exact False.elim q⟩
def dIntC : DC := fun xs G R => match xs with
  | [.int i] => R (.int i) G
  | [.bl b] => R (.int (if b then 1 else 0)) G
  | _ => False
theorem cd_int : CD X (.type "int") dIntC := ⟨_, call_int1, fun T x H d G R Q hr r q cr => by
  unfold dIntC at q
  split at q
  · cases r with
    | cons r1 r2 =>
      cases r2
      cases r1
      exact .inl ⟨_, rfl, cr _ _ _ _ (Up.refl H) hr (.int _) q⟩
  · cases r with
    | cons r1 r2 =>
      cases r2
      cases r1
      exact .inr ⟨_, rfl, cr _ _ _ _ (Up.refl H) hr (.int _) q⟩
  · exact False.elim q⟩
/-- list(xs) -/
def dListC : DC := fun xs G R => match xs with
  | [x] => (match seqOf G x with
    | some l => ∀ p, G p = none → R (.ref p) (updD G p (.lst l))
    | none => False)
  | _ => False
theorem cd_list : CD X (.type "list") dListC := ⟨_, call_list_of, fun T x H d G R Q hr r q cr => by
  unfold dListC at q
  split at q
  · cases r with
    | cons r1 r2 =>
      cases r2
      split at q
      · rename_i l el
        obtain ⟨p, xs, e3, e4, h2⟩ := seqOf_sq hr r1 el
        subst e3
        exact ⟨p, xs, rfl, e4, fun n hn => cr _ _ _ _ (Up.new hn) (hr.new (c := .lst l) hn ⟨xs, upd_same, h2.up (Up.new hn)⟩) (.ref n) (q n (hr.none hn))⟩
      · exact False.elim q
  · exact False.elim q⟩
/-- tuple(xs) -/
def dTupC : DC := fun xs G R => match xs with
  | [.tup l] => R (.tup l) G
  | [.key l] => R (.key l) G
  | [x] => (match seqOf G x with
    | some l => R (.tup l) G
    | none => False)
  | _ => False
theorem cd_tup : CD X (.type "tuple") dTupC := ⟨_, call_tuple_of, fun T x H d G R Q hr r q cr => by
  unfold dTupC at q
  split at q
  · cases r with
    | cons r1 r2 =>
      cases r2
      cases r1 with
      | tup h r => exact ⟨_, _, rfl, .inr ⟨h, cr _ _ _ _ (Up.refl H) hr (.tup h r) q⟩⟩
  · cases r with
    | cons r1 r2 =>
      cases r2
      cases r1 with
      | key h => exact ⟨_, _, rfl, .inr ⟨SqT.of h, cr _ _ _ _ (Up.refl H) hr (.key h) q⟩⟩
  · cases r with
    | cons r1 r2 =>
      cases r2
      split at q
      · rename_i l el
        obtain ⟨p, xs, e3, e4, h2⟩ := seqOf_sq hr r1 el
        subst e3
        rcases e4 with e4 | e4
        · exact ⟨_, xs, rfl, .inl ⟨e4, fun n hn => cr _ _ _ _ (Up.new hn) (hr.new0 hn) (.tup (SqT.of upd_same) (h2.up (Up.new hn))) q⟩⟩
        · exact ⟨_, xs, rfl, .inr ⟨e4, cr _ _ _ _ (Up.refl H) hr (.tup e4 h2) q⟩⟩
      · exact False.elim q
  · exact False.elim q⟩
/-- all(a list of truths) -/
def dAll : DC := fun xs G R => match xs with
  | [.ref a] => ∃ bs : List Bool, G a = some (.lst (bs.map D.bl)) ∧ R (.bl (bs.all id)) G
  | _ => False
theorem dvl_bls {K : KT} {H : Hp} : ∀ {bs : List Bool} {xs : List V}, DvL K H xs (bs.map D.bl) → xs = bs.map V.bl
  | [], _, .nil => rfl
  | b :: bs, _, .cons h r => by
    cases h
    rw [dvl_bls r]
    rfl
theorem cd_all (hc : X.calm = true) : CD X (.builtin "all") dAll := ⟨_, cr_all hc, fun T x H d G R Q hr r q cr => by
  unfold dAll at q
  split at q
  · cases r with
    | cons r1 r2 =>
      cases r2
      cases r1
      obtain ⟨bs, e, q⟩ := q
      obtain ⟨xs, h1, h2⟩ := hr _ _ e
      rw [dvl_bls h2] at h1
      exact ⟨_, bs, rfl, SqL.of h1, cr _ _ _ _ (Up.refl H) hr (.bl _) q⟩
  · exact False.elim q⟩
end
/-! methods of built-in types -/
abbrev DM := D → List D → DH → DK → Prop
def LiftM (K : KT) (r : V → List V → Hp → VK → Prop) (r2 : DM) : Prop := ∀ x xs H d ds G R Q, HRel K G H → Dv K H x d → DvL K H xs ds → r2 d ds G R → CloR K H Q R → r x xs H Q
def MD (X : Cx) (id : String) (r2 : DM) : Prop := ∃ r, MtR X id r ∧ ∀ T, LiftM (X.K, T) r r2
/-- the receiver is of that type -/
def tyR (G : DH) (T : String) (x : D) : Prop := match x with
  | .str _ => T = "str"
  | .ref a => (match G a with
    | some (.lst _) => T = "list"
    | some (.dK _) => T = "dict"
    | some (.dT _) => T = "dict"
    | _ => False)
  | _ => False
theorem tyR_v {K : KT} {G : DH} {H : Hp} {v : V} {d : D} {T : String} (hr : HRel K G H) (r : Dv K H v d) (e : tyR G T d) : tyV K.1 T v H := by
  unfold tyR at e
  split at e
  · cases r; exact e
  · cases r
    split at e
    · rename_i l ea
      obtain ⟨xs, h1, _⟩ := hr _ _ ea
      exact .inl ⟨e, xs, SqL.of h1⟩
    · rename_i l ea
      obtain ⟨xs, h1, _⟩ := hr _ _ ea
      exact .inr (.inr (.inl ⟨e, .inl ⟨xs, h1⟩⟩))
    · rename_i l ea
      obtain ⟨xs, h1, _⟩ := hr _ _ ea
      exact .inr (.inr (.inl ⟨e, .inr ⟨xs, h1⟩⟩))
    · exact False.elim e
  · exact False.elim e
def dBM (T : String) (r2 : DM) (da : DE) (dl : DA) : DE := fun δ G R EX => da δ G (fun x G1 => tyR G1 T x ∧ dl δ G1 (fun xs G2 => r2 x xs G2 R) EX) EX
section
variable {X : Cx} {E : EK} {o e : Expr} {es : List Expr} {da : DE} {dl : DA} {name : Str} {apos cpos : Pos} {T id : String} {r2 : DM}
theorem pd_bm (pa : PlainAttrs T) (slot : Slot T name id) (hty : typeOf (.builtin id) = pure (.type "method_descriptor")) (hm : MD X id r2) (ho : PD X E o da) (ha : PDA X E (e :: es) dl)
    (hbase : attributeBase o name X.env (eval o X.env) = eval o X.env := by rfl)
    (hfew : ((backTo cpos (starEach (e :: es) X.env)).all (fun x => !x.1) && (backToKw cpos (keywordEach [] X.env)).all (fun x => x.1.isSome)
      && decide ((e :: es).length + ([] : List Keyword).length + (if ([] : List Keyword).isEmpty then 0 else 1) < 30)) = true := by rfl)
    (hline : (apos.endLine == cpos.line) = true := by rfl) (hs : starEach (e :: es) X.env = (false, eval e X.env) :: starEach es X.env := by rfl) (hplain : (backTo cpos (starEach es X.env)).any (·.1) = false := by rfl) :
    PD X E (.Call (.Attribute o name apos) (e :: es) [] cpos) (dBM T r2 da dl) := by
  obtain ⟨r, hr, l⟩ := hm
  exact ⟨imE (pe_bm pa slot hty hr ho.pe ha.pa hbase hfew hline hs hplain) fun σ H Q ⟨δ, G, R, EX, sr, hr, h, cr, cx⟩ => ⟨δ, G, _, EX, sr, hr, h, fun x H1 d G1 u1 h1 r1 q1 => ⟨tyR_v h1 r1 q1.1, δ, G1, _, EX, sr.up u1, h1, q1.2, fun xs H2 ds G2 u2 h2 r2 q2 =>
    l _ x xs H2 d ds G2 R Q h2 (r1.up u2) r2 q2 (cr.up (u1.trans u2)), cx.up u1⟩, cx⟩⟩
theorem pd_bm0 (pa : PlainAttrs T) (slot : Slot T name id) (hty : typeOf (.builtin id) = pure (.type "method_descriptor")) (hm : MD X id r2) (ho : PD X E o da)
    (hbase : attributeBase o name X.env (eval o X.env) = eval o X.env := by rfl) (hline : (apos.endLine == cpos.line) = true := by rfl) : PD X E (.Call (.Attribute o name apos) [] [] cpos) (dBM T r2 da dNil) := by
  obtain ⟨r, hr, l⟩ := hm
  exact ⟨imE (pe_bm0 pa slot hty hr ho.pe hbase hline) fun σ H Q ⟨δ, G, R, EX, sr, hr, h, cr, cx⟩ => ⟨δ, G, _, EX, sr, hr, h, fun x H1 d G1 u1 h1 r1 q1 => ⟨tyR_v h1 r1 q1.1, l _ x [] H1 d [] G1 R Q h1 r1 .nil q1.2 (cr.up u1)⟩, cx⟩⟩
def mAppend : DM := fun x xs G R => match x, xs with
  | .ref a, [y] => ∃ l, G a = some (.lst l) ∧ l.length < sizeLine ∧ R .non (updD G a (.lst (l ++ [y])))
  | _, _ => False
theorem md_append : MD X "list.append" mAppend := ⟨_, mt_append, fun T x xs H d ds G R Q hr r rs q cr => by
  unfold mAppend at q
  split at q
  · cases r
    cases rs with
    | cons r1 r2 =>
      cases r2
      obtain ⟨l, e, hl, q⟩ := q
      obtain ⟨ys, h1, h2⟩ := hr _ _ e
      have u : ∀ o, Up H (upd H _ o) := fun o => Up.put h1 trivial
      exact ⟨_, ys, _, rfl, rfl, h1, by rw [h2.length]; exact hl, cr _ _ _ _ (u _) (hr.put (c := .lst _) h1 trivial ⟨_, upd_same, (h2.up (u _)).append (.cons (r1.up (u _)) .nil)⟩) .non q⟩
  · exact False.elim q⟩
def mExtend : DM := fun x xs G R => match x, xs with
  | .ref a, [.ref b] => ∃ l m, G a = some (.lst l) ∧ G b = some (.lst m) ∧ l.length + m.length ≤ sizeLine ∧ R .non (updD G a (.lst (l ++ m)))
  | _, _ => False
theorem md_extend : MD X "list.extend" mExtend := ⟨_, mt_extend, fun T x xs H d ds G R Q hr r rs q cr => by
  unfold mExtend at q
  split at q
  · cases r
    cases rs with
    | cons r1 r2 =>
      cases r2
      cases r1
      obtain ⟨l, m, e, e', hl, q⟩ := q
      obtain ⟨ys, h1, h2⟩ := hr _ _ e
      obtain ⟨zs, g1, g2⟩ := hr _ _ e'
      have u : ∀ o, Up H (upd H _ o) := fun o => Up.put h1 trivial
      exact ⟨_, _, ys, zs, rfl, rfl, h1, g1, by rw [h2.length, g2.length]; exact hl, cr _ _ _ _ (u _) (hr.put (c := .lst _) h1 trivial ⟨_, upd_same, (h2.append g2).up (u _)⟩) .non q⟩
  · exact False.elim q⟩
def mPopAt : DM := fun x xs G R => match x, xs with
  | .ref a, [.int i] => ∃ l k y, G a = some (.lst l) ∧ -(2 ^ 63) ≤ i ∧ i < 2 ^ 63 ∧ seqIndex? i l.length = some k ∧ l[k]? = some y ∧ R y (updD G a (.lst (l.eraseIdx k)))
  | _, _ => False
theorem md_popAt : MD X "list.pop" mPopAt := ⟨_, mt_popAt, fun T x xs H d ds G R Q hr r rs q cr => by
  unfold mPopAt at q
  split at q
  · cases r
    cases rs with
    | cons r1 r2 =>
      cases r2
      cases r1
      obtain ⟨l, k, y, e, a1, a2, a3, a4, q⟩ := q
      obtain ⟨ys, h1, h2⟩ := hr _ _ e
      obtain ⟨z, b1, b2⟩ := h2.get a4
      have u : ∀ o, Up H (upd H _ o) := fun o => Up.put h1 trivial
      exact ⟨_, ys, _, k, z, rfl, rfl, h1, a1, a2, by rw [h2.length]; exact a3, b1, cr _ _ _ _ (u _) (hr.put (c := .lst _) h1 trivial ⟨_, upd_same, (h2.eraseIdx k).up (u _)⟩) (b2.up (u _)) q⟩
  · exact False.elim q⟩
def mPop : DM := fun x xs G R => match x, xs with
  | .ref a, [] => ∃ l y, G a = some (.lst l) ∧ l[l.length - 1]? = some y ∧ R y (updD G a (.lst l.dropLast))
  | _, _ => False
theorem md_pop : MD X "list.pop" mPop := ⟨_, mt_pop, fun T x xs H d ds G R Q hr r rs q cr => by
  unfold mPop at q
  split at q
  · cases r
    cases rs
    obtain ⟨l, y, e, a4, q⟩ := q
    obtain ⟨ys, h1, h2⟩ := hr _ _ e
    obtain ⟨z, b1, b2⟩ := h2.get a4
    have u : ∀ o, Up H (upd H _ o) := fun o => Up.put h1 trivial
    exact ⟨_, ys, z, rfl, rfl, h1, by rw [h2.length]; exact b1, cr _ _ _ _ (u _) (hr.put (c := .lst _) h1 trivial ⟨_, upd_same, h2.dropLast.up (u _)⟩) (b2.up (u _)) q⟩
  · exact False.elim q⟩
def mClear : DM := fun x xs G R => match x, xs with
  | .ref a, [] => (∃ l, G a = some (.lst l)) ∧ R .non (updD G a (.lst []))
  | _, _ => False
theorem md_clear : MD X "list.clear" mClear := ⟨_, mt_clear, fun T x xs H d ds G R Q hr r rs q cr => by
  unfold mClear at q
  split at q
  · cases r
    cases rs
    obtain ⟨⟨l, e⟩, q⟩ := q
    obtain ⟨ys, h1, h2⟩ := hr _ _ e
    exact ⟨_, ys, rfl, rfl, h1, cr _ _ _ _ (Up.put h1 trivial) (hr.put (c := .lst []) h1 trivial ⟨_, upd_same, .nil⟩) .non q⟩
  · exact False.elim q⟩
end
/-! stores by subscript -/
def setF (G : DH) (o i v : D) (R : DH → Prop) : Prop := match o with
  | .ref a => (match G a with
    | some (.lst l) => (match i with
      | .int k => ∃ j, ixN l.length k = some j ∧ R (updD G a (.lst (l.set j v)))
      | _ => False)
    | _ => False)
  | _ => False
def dSetL : DSet := fun o i v G R => setF G o i v R
section
variable {X : Cx}
theorem set_listD : PSet X rSetL ∧ ∀ T, LiftSet (X.K, T) rSetL dSetL := ⟨set_list, fun T o i v H d e f G R Q hr ro ri rv q k => by
  unfold dSetL setF at q
  split at q
  · cases ro
    split at q
    · rename_i a l ea
      split at q
      · cases ri
        obtain ⟨j, hj, q⟩ := q
        obtain ⟨xs, h1, h2⟩ := hr _ _ ea
        have u : ∀ o, Up H (upd H _ o) := fun o => Up.put h1 trivial
        exact ⟨_, xs, _, j, rfl, rfl, h1, by rw [h2.length]; exact hj, k _ _ (u _) (hr.put (c := .lst _) h1 trivial ⟨_, upd_same, (DvL.set rv j h2).up (u _)⟩) q⟩
      · exact False.elim q
    · exact False.elim q
  · exact False.elim q⟩
end
/-! slices -/
abbrev DO := DS → DH → (Option Int → DH → Prop) → DX → Prop
def CloO (K : KT) (H : Hp) (Q : Option Int → Hp → Prop) (R : Option Int → DH → Prop) : Prop := ∀ b H' G', Up H H' → HRel K G' H' → R b G' → Q b H'
def upO (K : KT) (E : XK) (de : DO) : TO := fun σ H Q => ∃ δ G R EX, SRel K H σ δ ∧ HRel K G H ∧ de δ G R EX ∧ CloO K H Q R ∧ CloX K H E EX
structure PDO (X : Cx) (E : EK) (e : Option Expr) (de : DO) : Prop where
  po : PO X e (upO (kt X E) E.1 de)
def oNo : DO := fun _ G R _ => R none G
def oSome (da : DE) : DO := fun δ G R EX => da δ G (fun x G1 => match x with
  | .int i => R (some i) G1
  | _ => False) EX
theorem imO {X : Cx} {e : Option Expr} {t u : TO} (h : PO X e t) (k : ∀ σ H Q, u σ H Q → t σ H Q) : PO X e u := ⟨fun pins s σ H Q I q => h.run pins s σ H Q I (k σ H Q q)⟩
def SlD (X : Cx) (r2 : D → Option Int → Option Int → DH → DK → Prop) : Prop := ∃ r, SlR X r ∧ ∀ (T : List (Addr × Str)) x lo hi H d G R Q, HRel (X.K, T) G H → Dv (X.K, T) H x d → r2 d lo hi G R → CloR (X.K, T) H Q R → r x lo hi H Q
def dSl (r2 : D → Option Int → Option Int → DH → DK → Prop) (da : DE) (dl dh : DO) : DE := fun δ G R EX => da δ G (fun x G1 => dl δ G1 (fun l G2 => dh δ G2 (fun h G3 => r2 x l h G3 R) EX) EX) EX
section
variable {X : Cx} {E : EK} {e : Expr} {lo hi : Option Expr} {de : DE} {dl dh : DO} {pos p2 : Pos} {r2 : D → Option Int → Option Int → DH → DK → Prop}
theorem pdo_none : PDO X E none oNo := ⟨imO po_none fun σ H Q ⟨δ, G, R, EX, sr, hr, h, cr, cx⟩ => cr _ _ _ (Up.refl H) hr h⟩
theorem pdo_some (h : PD X E e de) : PDO X E (some e) (oSome de) := ⟨imO (po_some h.pe) fun σ H Q ⟨δ, G, R, EX, sr, hr, h, cr, cx⟩ => ⟨δ, G, _, EX, sr, hr, h, fun x H1 d G1 u1 h1 r1 q1 => by
  cases r1 with
  | int i => exact ⟨i, rfl, cr _ _ _ u1 h1 q1⟩
  | _ => exact False.elim q1, cx⟩⟩
theorem pd_slice (hr : SlD X r2) (he : PD X E e de) (hl : PDO X E lo dl) (hu : PDO X E hi dh) : PD X E (.Subscript e (.Slice lo hi none p2) pos) (dSl r2 de dl dh) := by
  obtain ⟨r, h1, h2⟩ := hr
  exact ⟨imE (pe_slice h1 he.pe hl.po hu.po) fun σ H Q ⟨δ, G, R, EX, sr, hr, h, cr, cx⟩ => ⟨δ, G, _, EX, sr, hr, h, fun x H1 d G1 u1 h1 r1 q1 => ⟨δ, G1, _, EX, sr.up u1, h1, q1, fun l H2 G2 u2 h2' q2 => ⟨δ, G2, _, EX, sr.up (u1.trans u2), h2', q2, fun u H3 G3 u3 h3 q3 =>
    h2 _ x l u H3 d G3 R Q h3 (r1.up (u2.trans u3)) q3 (cr.up (u1.trans (u2.trans u3))), cx.up (u1.trans u2)⟩, cx.up u1⟩, cx⟩⟩
def cutD (xs : List D) (lo hi : Option Int) : List D := (xs.drop (HT.sIx xs.length 0 lo)).take (HT.sIx xs.length xs.length hi - HT.sIx xs.length 0 lo)
theorem DvL.cut {K : KT} {H : Hp} {v : List V} {d : List D} (h : DvL K H v d) (lo hi : Option Int) : DvL K H (cutV v lo hi) (cutD d lo hi) := by
  unfold cutV cutD
  rw [h.length]
  exact (h.drop _).take _
/-- a tuple's, a list's slice -/
def sSl : D → Option Int → Option Int → DH → DK → Prop := fun x lo hi G R => match x with
  | .ref a => ∃ l, G a = some (.lst l) ∧ ∀ p, G p = none → R (.ref p) (updD G p (.lst (cutD l lo hi)))
  | x => (match x.tl with
    | some l => (HT.sIx l.length 0 lo = 0 ∧ HT.sIx l.length l.length hi = l.length → R x G) ∧ (¬ (HT.sIx l.length 0 lo = 0 ∧ HT.sIx l.length l.length hi = l.length) → R (.tup (cutD l lo hi)) G)
    | none => False)
theorem sld : SlD X sSl := ⟨_, sl_list.or sl_tupA, fun T x lo hi H d G R Q hr r q cr => by
  unfold sSl at q
  split at q
  · cases r
    obtain ⟨l, e, q⟩ := q
    obtain ⟨xs, h1, h2⟩ := hr _ _ e
    exact .inl ⟨_, xs, rfl, SqL.of h1, fun p hp => cr _ _ _ _ (Up.new hp) (hr.new (c := .lst _) hp ⟨_, upd_same, (h2.cut lo hi).up (Up.new hp)⟩) (.ref p) (q p (hr.none hp))⟩
  · split at q
    · rename_i l el
      obtain ⟨a, xs, h1, h2, h3⟩ := r.sqT el
      refine .inr ⟨a, xs, h1, h2, fun hw => ?_, fun hw p hp => ?_⟩
      · rw [h3.length] at hw
        subst h1
        exact cr _ _ _ _ (Up.refl H) hr r (q.1 hw)
      · rw [h3.length] at hw
        exact cr _ _ _ _ (Up.new hp) (hr.new0 hp) (.tup (SqT.of upd_same) ((h3.cut lo hi).up (Up.new hp))) (q.2 hw)
    · exact False.elim q⟩
end
end Cc
/-! ### objects, dicts, defs -/
namespace Cc
open PySem PySem.Spec PyProof.Rows L2
/-! what a def promises -/
def startD (N : List Str) (ds : List D) : DS := ds.map some ++ List.replicate (N.length - ds.length) none
theorem srel_start {K : KT} {H : Hp} {N : List Str} : ∀ {vs : List V} {ds : List D}, DvL K H vs ds → SRel K H (L2.start N vs) (startD N ds) := fun {vs ds} r => by
  refine ⟨by unfold L2.start startD; simp [r.length], fun i d e => ?_⟩
  unfold startD at e
  unfold L2.start
  by_cases hi : i < ds.length
  · rw [List.getElem?_append_left (by rw [List.length_map]; exact hi), List.getElem?_map] at e
    rw [List.getElem?_append_left (by rw [List.length_map, r.length]; exact hi), List.getElem?_map]
    cases q : ds[i]? with
    | none => rw [q] at e; cases e
    | some d' =>
      rw [q] at e
      cases e
      obtain ⟨v, h1, h2⟩ := r.get q
      exact ⟨v, by rw [h1]; rfl, h2⟩
  · rw [List.getElem?_append_right (by rw [List.length_map]; omega), List.getElem?_replicate] at e
    split at e <;> cases e
abbrev endsD (R : DK) (EX : DX) : DEnds := { nx := fun _ G => R .non G, rt := R, ex := EX }
/-- the body of a def keeps a reading, wherever it is entered -/
def BodyD (P : Program) (w : World) (K : PySem.W.Frag) (T : List (Addr × Str)) (cv : Value → Prop) (mg : Str → Option Value) (base : Heap) (N : List Str) (qual : Str) (scope : Scope) (body : List Stmt) (k : Nat) (sb : DSt) : Prop :=
  ∀ (f : Addr) (cdv : Value) (A : Around) (outer : List Env) (s : Shared) (H : Hp) (E : XK), cv cdv → Room k (A.deeper (envOfC qual scope s.heap.objs.size f cdv)) → PDSs (cxOf (L2N.CX P w) P w K mg base N qual scope f cdv A outer s H E) (E, T) body sb
section
variable {P : Program} {w : World} {K : PySem.W.Frag} {T : List (Addr × Str)} {cv : Value → Prop} {mg : Str → Option Value} {base : Heap} {N ps : List Str} {x qual : Str} {params : Arguments} {body : List Stmt} {scope : Scope} {dvs : List V} {kws : List (Str × V)} {f : Addr} {fd : FuncData} {k : Nat} {sb : DSt} {sd : SpD}
theorem okD (F : FunD K x qual params body scope dvs kws f fd) (S : FnScope N ps scope) (hcv : cv fd.code) (len : ∀ ds G R EX, sd ds G R EX → ds.length = ps.length) (B : BodyD P w K T cv mg base N qual scope body k sb)
    (hp : ∀ ds G R EX, sd ds G R EX → sb (endsD R EX) (startD N ds) G) : FnOk P w K mg base (L2N.CX P w) (k + 1) f fd ps (upF (K, T) sd) := by
  obtain ⟨oc, od, dV, kV, doc, pm, an, cdv, ct, osl, rfl, lk, hcd, _, _⟩ := F.ex
  refine fn_of lk hcd S (fun vs H Q E ⟨ds, G, R, EX, dv, hr, h, cr, cx⟩ => dv.length.trans (len ds G R EX h)) fun A outer s H vs Q E hr ⟨ds, G, R, EX, dv, hG, h, cr, cx⟩ => ?_
  refine ⟨upS (K, T) E sb, (B f cdv A outer s H E hcv hr).ps, startD N ds, G, endsD R EX, srel_start dv, hG, hp ds G R EX h, fun σ' H' δ' G' u s2 h2 q => cr _ _ _ _ u h2 .non q, cr, fun _ _ _ _ _ _ _ q => q.elim, fun _ _ _ _ _ _ _ q => q.elim, cx⟩
theorem tkD {cdv : Value} {A : Around} {outer : List Env} {s : Shared} {H : Hp} {E : XK} : L2N.Takes (cxOf (L2N.CX P w) P w K mg base N qual scope f cdv A outer s H E) (fun cls d _ H => E cls d H) := L2N.takes_of rfl rfl rfl rfl
theorem psD {cdv : Value} {A : Around} {outer : List Env} {s : Shared} {H : Hp} {E : XK} : Passes (L2N.CX P w) (cxOf (L2N.CX P w) P w K mg base N qual scope f cdv A outer s H E) E := L2N.passes_call tkD fun _ _ _ _ h => h
theorem poD {cdv : Value} {A : Around} {outer : List Env} {s : Shared} {H : Hp} {E : XK} : PassesOwn (model P w) (cxOf (L2N.CX P w) P w K mg base N qual scope f cdv A outer s H E).A (cxOf (L2N.CX P w) P w K mg base N qual scope f cdv A outer s H E).env (cxOf (L2N.CX P w) P w K mg base N qual scope f cdv A outer s H E).xe := passes_of rfl
/-- a call that lets nothing out -/
theorem passN {X : Cx} : Passes (L2N.CX X.prog X.w) X (fun _ _ _ => False) := fun _ _ _ _ _ _ _ ⟨_, _, _, _, _, _, _, _, _, _, _, _, z⟩ => z.elim
/-- a weaker promise -/
theorem impD {K : KT} {Fr : PySem.W.Frag} {CX : CXT} {sd sd' : SpD} (F : FnOk P w Fr mg base CX k f fd ps (upF K sd)) (h : ∀ ds G R EX, sd' ds G R EX → sd ds G R EX) : FnOk P w Fr mg base CX k f fd ps (upF K sd') :=
  F.imp fun vs H Q E ⟨ds, G, R, EX, dv, hr, q, cr, cx⟩ => ⟨ds, G, R, EX, dv, hr, h _ _ _ _ q, cr, cx⟩
end
/-! fields -/
def fld (fs : List (Str × D)) (f : Str) : Option D := fs.lookup f
def putFD (f : Str) (v : D) : List (Str × D) → List (Str × D)
  | [] => [(f, v)]
  | p :: r => if p.1 = f then (p.1, v) :: r else p :: putFD f v r
theorem KVr.fld {K : KT} {H : Hp} {xs : List (Str × V)} {ys : List (Str × D)} {f : Str} : KVr K H xs ys → ∀ {d : D}, ys.lookup f = some d → ∃ v, xs.lookup f = some v ∧ Dv K H v d := fun r => by
  induction r with
  | nil => intro d e; cases e
  | @cons p q l m h t ih =>
    intro d e
    obtain ⟨p1, p2⟩ := p
    obtain ⟨q1, q2⟩ := q
    obtain ⟨h1, h2⟩ := h
    dsimp only at h1 h2
    subst h1
    rw [List.lookup_cons] at e ⊢
    cases hb : f == p1 with
    | true => rw [hb] at e; cases e; exact ⟨p2, rfl, h2⟩
    | false => rw [hb] at e; exact ih e
theorem KVr.fldN {K : KT} {H : Hp} {xs : List (Str × V)} {ys : List (Str × D)} {f : Str} : KVr K H xs ys → ys.lookup f = none → xs.lookup f = none := fun r => by
  induction r with
  | nil => intro e; rfl
  | @cons p q l m h t ih =>
    intro e
    obtain ⟨p1, p2⟩ := p
    obtain ⟨q1, q2⟩ := q
    obtain ⟨h1, h2⟩ := h
    dsimp only at h1 h2
    subst h1
    rw [List.lookup_cons] at e ⊢
    cases hb : f == p1 with
    | true => rw [hb] at e; cases e
    | false => rw [hb] at e; exact ih e
theorem KVr.putF {K : KT} {H : Hp} {xs : List (Str × V)} {ys : List (Str × D)} {f : Str} {v : V} {d : D} (hd : Dv K H v d) : KVr K H xs ys → KVr K H (L2.putF f v xs) (putFD f d ys) := fun r => by
  induction r with
  | nil => exact .cons ⟨rfl, hd⟩ .nil
  | @cons p q l m h t ih =>
    obtain ⟨p1, p2⟩ := p
    obtain ⟨q1, q2⟩ := q
    obtain ⟨h1, h2⟩ := h
    dsimp only at h1 h2
    subst h1
    unfold L2.putF putFD
    by_cases hb : p1 = f
    · rw [if_pos hb, if_pos hb]
      exact .cons ⟨by first | rfl | exact hb.symm | exact hb, hd⟩ t
    · rw [if_neg hb, if_neg hb]
      exact .cons ⟨rfl, h2⟩ ih
theorem KVr.len {K : KT} {H : Hp} {κ : Type} {xs : List (κ × V)} {ys : List (κ × D)} (r : KVr K H xs ys) : xs.length = ys.length := Paired.length r
/-- o.f, o of the class at Cl -/
def dFld (Cl : Addr) (f : Str) (da : DE) : DE := fun δ G R EX => da δ G (fun x G1 => match x with
  | .ref a => (match G1 a with
    | some (.ins c fs) => c = Cl ∧ (match fs.lookup f with
      | some d => R d G1
      | none => False)
    | _ => False)
  | _ => False) EX
section
variable {X : Cx} {E : EK} {a b c e o value : Expr} {es rest : List Expr} {pos pos' apos : Pos} {da db dc de : DE} {dA dB : DT} {dl : DA} {Cl : Addr} {f m x : Str}
theorem pd_fld (cl : Cls X.K Cl) (na : NoAttr X.K Cl f) (he : PD X E e da) (hb : attributeBase e f X.env (eval e X.env) = eval e X.env := by rfl) : PD X E (.Attribute e f pos) (dFld Cl f da) :=
  ⟨imE (pe_fld he.pe hb) fun σ H Q ⟨δ, G, R, EX, sr, hr, h, cr, cx⟩ => ⟨δ, G, _, EX, sr, hr, h, fun x H1 d G1 u1 h1 r1 q1 => by
    dsimp only at q1
    split at q1
    · cases r1
      split at q1
      · rename_i a c fs ea
        obtain ⟨hc, q1⟩ := q1
        subst hc
        split at q1
        · rename_i d ed
          obtain ⟨dx, ys, e1, e2⟩ := h1 _ _ ea
          obtain ⟨v, e3, e4⟩ := e2.fld ed
          exact ⟨_, _, dx, ys, v, rfl, e1, cl, na, e3, cr _ _ _ _ u1 h1 e4 q1⟩
        · exact False.elim q1
      · exact False.elim q1
    · exact False.elim q1, cx⟩⟩
/-- o.f = e -/
def sFldD (Cl : Addr) (f : Str) (da dv : DE) : DSt := fun D δ G => dv δ G (fun y G1 => da δ G1 (fun x G2 => match x with
  | .ref a => (match G2 a with
    | some (.ins c fs) => c = Cl ∧ fs.length < 1000 ∧ D.nx δ (updD G2 a (.ins c (putFD f y fs)))
    | _ => False)
  | _ => False) D.ex) D.ex
theorem pds_fld (cl : Cls X.K Cl) (na : NoAttr X.K Cl f) (ha : PD X E o da) (hv : PD X E value dc) (hs : swapsWith value (some (.Attribute o f pos')) pos.line X.env = pure false := by rfl) : PDS X E (.Assign [.Attribute o f pos'] value pos) (sFldD Cl f da dc) :=
  ⟨imS (ps_fld ha.pe hv.pe hs) fun Dn σ H ⟨δ, G, DD, sr, hr, h, cn, ct, cb, cc, cx⟩ => ⟨δ, G, _, DD.ex, sr, hr, h, fun y H1 d G1 u1 h1 r1 q1 => ⟨δ, G1, _, DD.ex, sr.up u1, h1, q1, fun x H2 d2 G2 u2 h2 r2 q2 => by
    dsimp only at q2
    split at q2
    · cases r2
      split at q2
      · rename_i a c fs ea
        obtain ⟨hc, hl, q2⟩ := q2
        subst hc
        obtain ⟨dx, ys, e1, e2⟩ := h2 _ _ ea
        have u : ∀ o, Up H2 (upd H2 _ o) := fun o => Up.put e1 trivial
        have u12 := u1.trans u2
        refine ⟨_, _, dx, ys, rfl, e1, cl, na, by rw [e2.len]; exact hl, ?_⟩
        exact cn _ _ _ _ (u12.trans (u _)) (sr.up (u12.trans (u _))) (h2.put (c := .ins _ (putFD f d fs)) e1 trivial ⟨dx, _, upd_same, KVr.putF (r1.up (u2.trans (u _))) (e2.up (u _))⟩) q2
      · exact False.elim q2
    · exact False.elim q2, cx.up u1⟩, cx⟩⟩
/-- o.m(..) -/
def dMeth (Cl : Addr) (m : Str) (sd : SpD) (da : DE) (dl : DA) : DE := fun δ G R EX => da δ G (fun x G1 => match x with
  | .ref a => (match G1 a with
    | some (.ins c fs) => c = Cl ∧ fs.lookup m = none ∧ dl δ G1 (fun xs G2 => sd (.ref a :: xs) G2 R EX) EX
    | _ => False)
  | _ => False) EX
theorem up_meth {sd : SpD} {σ : L2.St} {H : Hp} {Q : VK} : up (kt X E) E.1 (dMeth Cl m sd da dl) σ H Q → tMeth Cl m (upF (kt X E) sd) [] E.1 (up (kt X E) E.1 da) (upA (kt X E) E.1 dl) σ H Q := fun ⟨δ, G, R, EX, sr, hr, h, cr, cx⟩ =>
  ⟨δ, G, _, EX, sr, hr, h, fun x H1 d G1 u1 h1 r1 q1 => by
    dsimp only at q1
    split at q1
    · cases r1
      split at q1
      · rename_i a c fs ea
        obtain ⟨hc, hl, q1⟩ := q1
        subst hc
        obtain ⟨dx, ys, e1, e2⟩ := h1 _ _ ea
        refine ⟨_, dx, ys, rfl, e1, e2.fldN hl, δ, G1, _, EX, sr.up u1, h1, q1, fun vs H2 ds G2 u2 h2 r2 q2 => ?_, cx.up u1⟩
        show upF (kt X E) sd (_ :: (vs ++ [])) H2 Q E.1
        rw [List.append_nil]
        exact ⟨_, G2, R, EX, .cons (.ref _) r2, h2, q2, cr.up (u1.trans u2), cx.up (u1.trans u2)⟩
      · exact False.elim q1
    · exact False.elim q1, cx⟩
variable {CX : CXT} {k : Nat} {g : Addr} {fd : FuncData} {ps : List Str} {sd : SpD} {p : Pos}
theorem pd_meth {pl : Sem Bool} (he : PD X E o da) (cl : Cls X.K Cl) (hm : Meth X.K Cl m g) (F : FnOk X.prog X.w X.K X.mg X.base CX k g fd ps (upF (kt X E) sd)) (hr : Room k X.A) (hb : Binds X.K fd ps []) (hx : Passes CX X E.1) (ha : PDA X E (e :: es) dl)
    (hst : starEach (e :: es) X.env = (false, eval e X.env) :: starEach es X.env := by rfl) (hpl : (backTo pos (starEach es X.env)).any (·.1) = false := by rfl)
    (ht : eval (.Call (.Attribute o m apos) (e :: es) [] pos) X.env = (do
      let ov ← eval o X.env
      standAt apos.atName
      let (f, first) ← holding [ov] (getMethod ov m pl)
      callWith pos f first (backTo pos (starEach (e :: es) X.env)) (backToKw pos (keywordEach [] X.env))) := by rfl) :
    PD X E (.Call (.Attribute o m apos) (e :: es) [] pos) (dMeth Cl m sd da dl) := ⟨imE (pe_meth he.pe cl hm F hr hb .nil hx ha.pa hst hpl ht) fun _ _ _ => up_meth⟩
theorem pd_meth0 {pl : Sem Bool} (he : PD X E o da) (cl : Cls X.K Cl) (hm : Meth X.K Cl m g) (F : FnOk X.prog X.w X.K X.mg X.base CX k g fd ps (upF (kt X E) sd)) (hr : Room k X.A) (hb : Binds X.K fd ps []) (hx : Passes CX X E.1)
    (ht : eval (.Call (.Attribute o m apos) [] [] pos) X.env = (do
      let ov ← eval o X.env
      standAt apos.atName
      let (f, first) ← holding [ov] (getMethod ov m pl)
      callWith pos f first (backTo pos (starEach [] X.env)) (backToKw pos (keywordEach [] X.env))) := by rfl) :
    PD X E (.Call (.Attribute o m apos) [] [] pos) (dMeth Cl m sd da dNil) := ⟨imE (pe_meth0 he.pe cl hm F hr hb .nil hx ht) fun σ H Q h => up_meth (dl := dNil) (by
      obtain ⟨δ, G, R, EX, sr, hr, h, cr, cx⟩ := h
      exact ⟨δ, G, R, EX, sr, hr, h, cr, cx⟩) |> fun h => by
      obtain ⟨δ, G, R, EX, sr, hr, h, cr, cx⟩ := h
      refine ⟨δ, G, R, EX, sr, hr, h, fun v H' d G' u1 h1 r1 q1 => ?_, cx⟩
      obtain ⟨a, dx, fs, e1, e2, e3, δ2, G2, R2, EX2, s2, h2, q2, cr2, cx2⟩ := cr v H' d G' u1 h1 r1 q1
      exact ⟨a, dx, fs, e1, e2, e3, cr2 _ _ _ _ (Up.refl _) h2 .nil q2⟩⟩
/-- Cl(..) -/
def dMake (Cl : Addr) (sd : SpD) (dl : DA) : DE := fun δ G R EX => dl δ G (fun xs G1 => ∀ x, G1 x = none → sd (.ref x :: xs) (updD G1 x (.ins Cl [])) (fun d G2 => match d with
  | .non => R (.ref x) G2
  | _ => False) EX) EX
theorem up_make {sd : SpD} {σ : L2.St} {H : Hp} {Q : VK} : up (kt X E) E.1 (dMake Cl sd dl) σ H Q → tMake Cl (upF (kt X E) sd) [] E.1 (upA (kt X E) E.1 dl) σ H Q := fun ⟨δ, G, R, EX, sr, hr, h, cr, cx⟩ =>
  ⟨δ, G, _, EX, sr, hr, h, fun vs H1 ds G1 u1 h1 r1 q1 => fun x dx nx ndx nex => by
    have n2 : upd H1 dx (.own x) x = none := by rw [upd_ne (fun e => nex e.symm)]; exact nx
    have ua : Up H1 (upd H1 dx (.own x)) := Up.new ndx
    have ub : Up (upd H1 dx (.own x)) (upd (upd H1 dx (.own x)) x (.ins Cl dx [])) := Up.new n2
    have hG := (h1.new0 (o := .own x) ndx).new (c := .ins Cl []) (o := .ins Cl dx []) n2 ⟨dx, [], upd_same, .nil⟩
    show upF (kt X E) sd (.ref x :: (vs ++ [])) _ _ E.1
    rw [List.append_nil]
    refine ⟨_, _, _, EX, .cons (.ref x) (r1.up (ua.trans ub)), hG, q1 x (h1.none nx), fun v H2 d G2 u2 h2 r2 q2 => ?_, cx.up (u1.trans (ua.trans ub))⟩
    dsimp only at q2
    split at q2
    · cases r2
      exact ⟨rfl, cr _ _ _ _ (u1.trans (ua.trans (ub.trans u2))) h2 (.ref x) q2⟩
    · exact False.elim q2, cx⟩
theorem pd_make (M : Mk X.K Cl g) (F : FnOk X.prog X.w X.K X.mg X.base CX k g fd ps (upF (kt X E) sd)) (hr : Room (k + 1) X.A) (hm : X.mg x = some (.ref Cl)) (hb : Binds X.K fd ps []) (hx : Passes CX X E.1)
    (ha : PDA X E (e :: es) dl) (hg : Gl X x := by rfl) (hdb : (x == ("__debug__" : Str)) = false := by decide) (he : starEach (e :: es) X.env = (false, eval e X.env) :: starEach es X.env := by rfl) (hpl : (backTo pos (starEach es X.env)).any (·.1) = false := by rfl) :
    PD X E (.Call (.Name x p) (e :: es) [] pos) (dMake Cl sd dl) := ⟨imE (pe_make M F hr hg hm hb .nil hx ha.pa hdb he hpl) fun _ _ _ => up_make⟩
theorem pd_make0 (M : Mk X.K Cl g) (F : FnOk X.prog X.w X.K X.mg X.base CX k g fd ps (upF (kt X E) sd)) (hr : Room (k + 1) X.A) (hm : X.mg x = some (.ref Cl)) (hb : Binds X.K fd ps []) (hx : Passes CX X E.1)
    (hg : Gl X x := by rfl) (hdb : (x == ("__debug__" : Str)) = false := by decide) : PD X E (.Call (.Name x p) [] [] pos) (dMake Cl sd dNil) := ⟨imE (pe_make0 M F hr hg hm hb .nil hx hdb) fun σ H Q h => by
      obtain ⟨δ, G, R, EX, sr, hr, h, cr, cx⟩ := up_make h
      exact cr [] H [] _ (Up.refl H) hr .nil h⟩
end
/-! errors -/
/-- raise x('..'), x an own class over ValueError without its own making -/
structure ErrC (K : PySem.W.Frag) (mg : Str → Option Value) (x : Str) (C : Addr) : Prop where
  q : PySem.W.excIn K C [.type "ValueError", .type "Exception", .type "BaseException", .type "object"] "ValueError.__new__" = true
  g : mg x = some (.ref C)
  k : PySem.W.keepIn K (.ref C) = true
  b : PySem.W.subIn K (.ref C) (.type "BaseException") = some true
  t : PySem.W.typeIn K (.ref C) = some (.type "type")
def sRaise (C : Addr) : DSt := fun D _ G => D.ex (.ref C) none G
section
variable {X : Cx} {E : EK} {x m : Str} {C : Addr} {pos pos2 p p2 : Pos} {j : Nat}
theorem pds_raise (T : ErrC X.K X.mg x C) (tk : L2N.Takes X (fun cls d _ H => E.1 cls d H)) (hc : X.calm = true := by rfl) (hg : Gl X x := by rfl) (hdb : (x == ("__debug__" : Str)) = false := by decide) : PDS X E (.Raise (some (.Call (.Name x p) [.Constant (.str m) j p2] [] pos)) none pos2) (sRaise C) :=
  ⟨imS (L2N.ps_raise hc tk (L2N.pmk_own PySem.F.excBase_ValueError T.q T.g T.k (raises_own T.b T.t) hg hdb)) fun Dn σ H ⟨δ, G, DD, sr, hr, h, cn, ct, cb, cc, cx⟩ => cx _ _ _ _ (Up.refl H) hr h⟩
end
end Cc
/-! ### what the module's names stand for; blocks of comprehensions -/
namespace Cc
open PySem PySem.Spec PyProof.Rows L2
/-- a def of the module, by its name: its promise at a level -/
structure Fn (P : Program) (w : World) (K : KT) (mg : Str → Option Value) (base : Heap) (x : Str) (k : Nat) (ps : List Str) (sd : SpD) : Prop where
  ex : ∃ f fd, FnOk P w K.1 mg base (L2N.CX P w) k f fd ps (upF K sd) ∧ mg x = some (.ref f) ∧ PySem.W.keepIn K.1 (.ref f) = true ∧ Binds K.1 fd ps []
/-- a method -/
structure Mt (P : Program) (w : World) (K : KT) (mg : Str → Option Value) (base : Heap) (C : Addr) (m : Str) (k : Nat) (ps : List Str) (sd : SpD) : Prop where
  ex : ∃ f fd, FnOk P w K.1 mg base (L2N.CX P w) k f fd ps (upF K sd) ∧ Meth K.1 C m f ∧ Binds K.1 fd ps []
/-- a class that is called -/
structure Mr (P : Program) (w : World) (K : KT) (mg : Str → Option Value) (base : Heap) (x : Str) (C : Addr) (k : Nat) (ps : List Str) (sd : SpD) : Prop where
  ex : ∃ f fd, FnOk P w K.1 mg base (L2N.CX P w) k f fd ps (upF K sd) ∧ Mk K.1 C f ∧ mg x = some (.ref C) ∧ Binds K.1 fd ps []
section
variable {X : Cx} {E : EK} {a b c e o : Expr} {es : List Expr} {pos p apos : Pos} {da : DE} {dl : DA} {k j : Nat} {ps : List Str} {sd : SpD} {x m : Str} {Cl : Addr}
theorem pd_fn (F : Fn X.prog X.w (kt X E) X.mg X.base x k ps sd) (hr : Room j X.A) (hx : Passes (L2N.CX X.prog X.w) X E.1) (ha : PDA X E (e :: es) dl) (hk : k ≤ j := by decide) (hg : Gl X x := by rfl) (hdb : (x == ("__debug__" : Str)) = false := by decide)
    (he : starEach (e :: es) X.env = (false, eval e X.env) :: starEach es X.env := by rfl) (hpl : (backTo pos (starEach es X.env)).any (·.1) = false := by rfl) : PD X E (.Call (.Name x p) (e :: es) [] pos) (dCall sd dl) := by
  obtain ⟨f, fd, F, hm, kp, hb⟩ := F.ex
  exact pd_call F (hr.mono hk) hg hm kp hb hx ha hdb he hpl
theorem pd_fn0 (F : Fn X.prog X.w (kt X E) X.mg X.base x k ps sd) (hr : Room j X.A) (hx : Passes (L2N.CX X.prog X.w) X E.1) (hk : k ≤ j := by decide) (hg : Gl X x := by rfl) (hdb : (x == ("__debug__" : Str)) = false := by decide) : PD X E (.Call (.Name x p) [] [] pos) (dCall sd dNil) := by
  obtain ⟨f, fd, F, hm, kp, hb⟩ := F.ex
  exact pd_call0 F (hr.mono hk) hg hm kp hb hx hdb
theorem pd_mt {pl : Sem Bool} (cl : Cls X.K Cl) (F : Mt X.prog X.w (kt X E) X.mg X.base Cl m k ps sd) (hr : Room j X.A) (hx : Passes (L2N.CX X.prog X.w) X E.1) (he : PD X E o da) (ha : PDA X E (e :: es) dl) (hk : k ≤ j := by decide)
    (hst : starEach (e :: es) X.env = (false, eval e X.env) :: starEach es X.env := by rfl) (hpl : (backTo pos (starEach es X.env)).any (·.1) = false := by rfl)
    (ht : eval (.Call (.Attribute o m apos) (e :: es) [] pos) X.env = (do
      let ov ← eval o X.env
      standAt apos.atName
      let (f, first) ← holding [ov] (getMethod ov m pl)
      callWith pos f first (backTo pos (starEach (e :: es) X.env)) (backToKw pos (keywordEach [] X.env))) := by rfl) :
    PD X E (.Call (.Attribute o m apos) (e :: es) [] pos) (dMeth Cl m sd da dl) := by
  obtain ⟨f, fd, F, hm, hb⟩ := F.ex
  exact pd_meth he cl hm F (hr.mono hk) hb hx ha hst hpl ht
theorem pd_mt0 {pl : Sem Bool} (cl : Cls X.K Cl) (F : Mt X.prog X.w (kt X E) X.mg X.base Cl m k ps sd) (hr : Room j X.A) (hx : Passes (L2N.CX X.prog X.w) X E.1) (he : PD X E o da) (hk : k ≤ j := by decide)
    (ht : eval (.Call (.Attribute o m apos) [] [] pos) X.env = (do
      let ov ← eval o X.env
      standAt apos.atName
      let (f, first) ← holding [ov] (getMethod ov m pl)
      callWith pos f first (backTo pos (starEach [] X.env)) (backToKw pos (keywordEach [] X.env))) := by rfl) :
    PD X E (.Call (.Attribute o m apos) [] [] pos) (dMeth Cl m sd da dNil) := by
  obtain ⟨f, fd, F, hm, hb⟩ := F.ex
  exact pd_meth0 he cl hm F (hr.mono hk) hb hx ht
theorem pd_mk (M : Mr X.prog X.w (kt X E) X.mg X.base x Cl k ps sd) (hr : Room j X.A) (hx : Passes (L2N.CX X.prog X.w) X E.1) (ha : PDA X E (e :: es) dl) (hk : k + 1 ≤ j := by decide) (hg : Gl X x := by rfl) (hdb : (x == ("__debug__" : Str)) = false := by decide)
    (he : starEach (e :: es) X.env = (false, eval e X.env) :: starEach es X.env := by rfl) (hpl : (backTo pos (starEach es X.env)).any (·.1) = false := by rfl) : PD X E (.Call (.Name x p) (e :: es) [] pos) (dMake Cl sd dl) := by
  obtain ⟨f, fd, F, M, hm, hb⟩ := M.ex
  exact pd_make M F (hr.mono hk) hm hb hx ha hg hdb he hpl
theorem pd_mk0 (M : Mr X.prog X.w (kt X E) X.mg X.base x Cl k ps sd) (hr : Room j X.A) (hx : Passes (L2N.CX X.prog X.w) X E.1) (hk : k + 1 ≤ j := by decide) (hg : Gl X x := by rfl) (hdb : (x == ("__debug__" : Str)) = false := by decide) : PD X E (.Call (.Name x p) [] [] pos) (dMake Cl sd dNil) := by
  obtain ⟨f, fd, F, M, hm, hb⟩ := M.ex
  exact pd_make0 M F (hr.mono hk) hm hb hx hg hdb
/-- a built-in class's name as a value -/
theorem pd_ty {n : String} (hm : X.mg x = none) (hv : bootBuiltins x = some (.type n)) (hg : Gl X x := by rfl) (hn : x ≠ "__name__" := by decide) (hd : (x == ("__debug__" : Str)) = false := by decide) : PD X E (.Name x pos) (dC (.ty n)) :=
  pd_c (pe_bltn (v := .ty n) hg hm hv rfl hn hd) fun _ => .ty _
def dNeg : D1 := fun x G R => match x with
  | .int i => R (.int (-i)) G
  | _ => False
theorem pd_neg (ha : PD X E a da) : PD X E (.UnaryOp .USub a pos) (dUn dNeg da) := pd_un un_neg (fun T x H d G R Q hr rx q cr => by
  unfold dNeg at q
  split at q
  · cases rx
    exact ⟨_, rfl, cr _ _ _ _ (Up.refl H) hr (.int _) q⟩
  · exact False.elim q) ha
end
/-! a comprehension's block -/
def gNames : List Nat → TGs
  | [] => gNil
  | i :: is => gCons (gName i) (gNames is)
def gsNames : List Nat → DGs
  | [] => gsNil
  | i :: is => gsCons (gN i) (gsNames is)
theorem cts_names {vs : List Nat} : ∀ {is : List Nat}, (∀ i ∈ is, i ∈ vs) → CTs vs (gNames is)
  | [], _ => fun v σ H Q h => ⟨h.1, rfl, h.2⟩
  | i :: is, hm => fun v σ H Q h => by
    obtain ⟨v1, r, e1, h1⟩ := h
    refine ⟨v1, r, e1, ?_⟩
    have h1 : gNames is r (σ.set i (some v1)) H Q := h1
    show gNames is r (σ.set i (some v1)) H _
    have h3 := cts_names (fun j hj => hm j (List.mem_cons_of_mem _ hj)) _ _ _ _ h1
    rw [wipe_set (hm i List.mem_cons_self)] at h3
    exact h3
theorem up_gsNames {K : KT} : ∀ {is : List Nat} {v : List V} {σ : L2.St} {H : Hp} {Q : L2.St → Hp → Prop}, upGs K noE (gsNames is) v σ H Q → gNames is v σ H Q
  | [], v, σ, H, Q, ⟨d, δ, G, R, EX, dv, sr, hr, h, cr, cx⟩ => by
    obtain ⟨rfl, h⟩ := h
    cases dv
    exact ⟨rfl, cr _ _ _ _ (Up.refl H) sr hr h⟩
  | i :: is, v, σ, H, Q, ⟨d, δ, G, R, EX, dv, sr, hr, h, cr, cx⟩ => by
    cases dv with
    | nil => exact False.elim h
    | cons r rr => exact ⟨_, _, rfl, up_gsNames ⟨_, _, G, R, EX, rr, sr.set r, hr, h, cr, cx⟩⟩
section
variable {X : Cx} {E : EK} {scope : Scope} {vs : List Nat} {x : Str} {p : Pos} {elt : Expr} {ifs es : List Expr} {tt : DT} {te : DE} {i k n : Nat} {is : List Nat}
theorem blk_name (hm : i ∈ vs) (hpg : ∀ (s : Shared) (H : Hp) (C : Addr) (cl : List (Str × Addr)) (fp : List Addr), PG (X.blk s H scope (compEnvC scope cl C X.env) fp) (.Name x p) (gName i))
    (ht : ∀ (s : Shared) (H : Hp) (C : Addr) (cl : List (Str × Addr)) (fp : List Addr), PDTs (X.blk s H scope (compEnvC scope cl C X.env) fp) E ifs tt)
    (he : ∀ (s : Shared) (H : Hp) (C : Addr) (cl : List (Str × Addr)) (fp : List Addr), PD (X.blk s H scope (compEnvC scope cl C X.env) fp) (noE, E.2) elt te) : BlkP X E scope vs (.Name x p) elt ifs (gN i) tt te :=
  ⟨⟨gName i, fun v σ H Q h => ⟨wipe_set hm, h⟩, fun v σ H Q ⟨d, δ, G, R, EX, dv, sr, hr, h, cr, cx⟩ => cr _ _ _ _ (Up.refl H) (sr.set dv) hr h, hpg⟩, ht, he⟩
theorem blk_tup (hm : ∀ i ∈ is, i ∈ vs) (hpg : ∀ (s : Shared) (H : Hp) (C : Addr) (cl : List (Str × Addr)) (fp : List Addr), PG (X.blk s H scope (compEnvC scope cl C X.env) fp) (.Tuple es k p) (gTup X.K n (gNames is)))
    (ht : ∀ (s : Shared) (H : Hp) (C : Addr) (cl : List (Str × Addr)) (fp : List Addr), PDTs (X.blk s H scope (compEnvC scope cl C X.env) fp) E ifs tt)
    (he : ∀ (s : Shared) (H : Hp) (C : Addr) (cl : List (Str × Addr)) (fp : List Addr), PD (X.blk s H scope (compEnvC scope cl C X.env) fp) (noE, E.2) elt te) : BlkP X E scope vs (.Tuple es k p) elt ifs (gT n (gsNames is)) tt te := by
  refine ⟨⟨gTup X.K n (gNames is), fun v σ H Q ⟨a, xs, e1, e2, e3, h⟩ => ⟨a, xs, e1, e2, e3, cts_names hm _ _ _ _ h⟩, fun v σ H Q ⟨d, δ, G, R, EX, dv, sr, hr, h, cr, cx⟩ => ?_, hpg⟩, ht, he⟩
  unfold gT at h
  split at h
  · rename_i l e
    obtain ⟨a, xs, rfl, hq, r⟩ := dv.sqT e
    exact ⟨_, _, rfl, hq, by rw [r.length]; exact h.1, up_gsNames ⟨_, δ, G, R, EX, r, sr, hr, h.2, cr, cx⟩⟩
  · exact False.elim h
end
end Cc
/-! ### sorting: of data, by a key that is a lambda -/
namespace Cc
open PySem PySem.Spec PyProof.Rows L2
open PySem.W (EachIs AllAlike Sortable dataLe KeyPure kla_obj kla_fn envX)
/-- a lambda of one parameter that captures nothing -/
structure Lam1 (scope : Scope) (x : Str) : Prop where
  kind : scope.kind = .function
  co : scope.isCoroutine = false
  gen : scope.isGenerator = false
  cell : ∀ y ∈ scope.names, y.2 ≠ .cell
  free : ∀ y ∈ scope.names, y.2 ≠ .free
  loc : scope.names.lookup x = some .local
def lam1B (scope : Scope) (x : Str) : Bool := decide (scope.kind = .function) && !scope.isCoroutine && !scope.isGenerator && (scope.names.all fun y => !decide (y.2 = .cell) && !decide (y.2 = .free)) && decide (scope.names.lookup x = some .local)
theorem lam1_by {scope : Scope} {x : Str} (h : lam1B scope x = true) : Lam1 scope x := by
  unfold lam1B at h
  simp only [Bool.and_eq_true, Bool.not_eq_true', decide_eq_true_eq, decide_eq_false_iff_not, List.all_eq_true] at h
  obtain ⟨⟨⟨⟨h1, h2⟩, h3⟩, h4⟩, h5⟩ := h
  exact ⟨h1, h2, h3, fun y hy => (h4 y hy).1, fun y hy => (h4 y hy).2, h5⟩
section
variable {prog : Program} {w : World} {A : Around} {s : Shared} {x q : Str} {params : Arguments} {body : Expr} {scope : Scope} {f c' : Addr} {pm ctv v : Value} {k : PyData}
theorem lam_key (L : Lam1 scope x) (hf : s.heap.get? f = some (kla_obj "<lambda>" q params body scope [] pm c' ctv)) (hc : s.heap.CodeRec (.ref c') q) (hroom : A.depth < recursionLimit) (hlim : s.heap.NoLimit)
    (hbind : bindArgs (kla_fn "<lambda>" q params body scope [] pm (.ref c') ctv) ⟨[v], []⟩ = pure [(x, v)])
    (hb : ∀ (h₁ : Heap) (tk : Nat), (∀ b o, s.heap.get? b = some o → h₁.get? b = some o) → h₁.Ns s.heap.objs.size (fun y => ([(x, v)] : List (Str × Value)).reverse.lookup y) →
      wpAny (model prog w) (A.deeper (envX q scope s.heap.objs.size f (.ref c') [])) (eval body (envX q scope s.heap.objs.size f (.ref c') [])) (KeyPure k { s with heap := h₁, toks := tk }) (fun _ _ => False) { s with heap := h₁, toks := tk }) :
    wpAny (model prog w) A (call (.ref f) [v]) (KeyPure k s) (fun _ _ => False) s := by
  refine wpAny_call (PySem.W.kla_callFunE hroom hf rfl L.co L.gen rfl hc ?_)
  rw [hbind]
  refine wpAny_pure (wpAny_newFunctionEnv L.cell (fun y hy => ?_) (fun h₁ hns hsb => ⟨hlim.fresh _ hsb, ?_⟩) L.kind)
  · have e : y = (x, v) := by simpa using hy
    subst e
    exact L.loc
  · have kp : ∀ b o, s.heap.get? b = some o → h₁.get? b = some o := fun b o e => hsb.extBut b o (Nat.ne_of_lt (Heap.lt_size e)) (Heap.get?_push_of_some _ e)
    show codeAny _ _ (.expr body (envX q scope s.heap.objs.size f (.ref c') [])) _ _
    refine PySem.W.kla_codeExpr (wpAny_mono (hb h₁ _ kp hns) (fun u s' hq => ?_) fun _ _ z => z.elim)
    obtain ⟨h', tk, e, k1, r⟩ := hq
    subst e
    exact ⟨h', tk, rfl, fun b o e => k1 b o (kp b o e), r⟩
variable {E : Value → Shared → Prop} {Q : Value → Shared → Prop} {L f' : Addr} {cd : Value}
theorem lam_name {p : Pos} (hk : scope.kind = .function) (hl : scope.names.lookup x = some .local) (hn : s.heap.Ns L (fun y => ([(x, v)] : List (Str × Value)).reverse.lookup y)) (hd : (x == ("__debug__" : Str)) = false) (h : Q v s) :
    wpAny (model prog w) A (eval (.Name x p) (envX q scope L f' cd [])) Q E s :=
  wpAny_Name (wpAny_loadName_local hk hl hn (by simp [List.lookup]) h) hd
/-- row[i] -/
theorem lam_ix {p1 p2 p3 : Pos} {i : Nat} {t : Addr} {its : Array Value} {n : Int} {tk : Tok} {jj} (hk : scope.kind = .function) (hl : scope.names.lookup x = some .local) (hn : s.heap.Ns L (fun y => ([(x, .ref t)] : List (Str × Value)).reverse.lookup y)) (hd : (x == ("__debug__" : Str)) = false)
    (ht : IsTup s.heap t its) (hi : its.toList[i]? = some (.int n tk)) (hz : its.size ≤ sizeLine) :
    wpAny (model prog w) A (eval (.Subscript (.Name x p1) (.Constant (.int (i : Nat)) jj p2) p3) (envX q scope L f' cd [])) (KeyPure (.int n) s) (fun _ _ => False) s := by
  refine Subscript_ (lam_name hk hl hn hd (wpAny_Constant_int ?_))
  have hlt : i < its.size := by
    have := (List.getElem?_eq_some_iff.mp hi).1
    simpa using this
  have hn' := line63
  refine subscriptTail_builtinR (x := .int n tk) ht.typeIs slot_tuple_getitem.lookup
    (getItem_tuple (j := i) (Q := fun r s' => r = .int n tk ∧ KeyPure (.int n) s r s') ht (by omega) (by omega) ?_ (by simpa using hi) ⟨rfl, s.heap, s.toks + 1, rfl, fun _ _ e => e, .int _ _⟩) rfl
  unfold seqIndex?
  simp
  omega
/-- row[:i], ints -/
theorem readsAll_ints {h : Heap} : ∀ {vs : List Value} {ns : List Int}, IntsAre vs ns → ReadsAll h vs (ns.map PyData.int) []
  | _, _, .nil => .nil
  | _, _, .cons n t r => .cons (.int n t) (readsAll_ints r)
theorem lam_cut {p1 p2 p3 p4 : Pos} {i : Nat} {t : Addr} {its : Array Value} {ns : List Int} {jj} (hk : scope.kind = .function) (hl : scope.names.lookup x = some .local) (hn : s.heap.Ns L (fun y => ([(x, .ref t)] : List (Str × Value)).reverse.lookup y)) (hd : (x == ("__debug__" : Str)) = false)
    (ht : IsTup s.heap t its) (hi : IntsAre (its.toList.take i) ns) (hlt : i < its.size) (hz : its.size ≤ sizeLine) :
    wpAny (model prog w) A (eval (.Subscript (.Name x p1) (.Slice none (some (.Constant (.int (i : Nat)) jj p2)) none p4) p3) (envX q scope L f' cd [])) (KeyPure (.tuple (ns.map PyData.int)) s) (fun _ _ => False) s := by
  refine Subscript_ (lam_name hk hl hn hd ?_)
  refine wpAny_Slice ?_
  rw [evalPart_none, evalPart_some]
  refine wpAny_pure (wpAny_Constant_int (wpAny_pure ?_))
  have ht' : IsTup (s.heap.push { cls := .type "slice", data := .fields #[.none, .int (i : Nat) s.toks, .none] }) t its := by
    obtain ⟨o, ho, r⟩ := ht
    exact ⟨o, Heap.get?_push_of_some _ ho, r⟩
  have e1 : HT.sIx its.size 0 none = 0 := HT.sIx_none _ _
  have e2 : HT.sIx its.size its.size (some ((i : Nat) : Int)) = i := by rw [HT.sIx_nat]; omega
  refine tail_any (ops := [.ref s.heap.objs.size, .ref t]) ht'.typeIs PyProof.Rows.slot_tuple_getitem.lookup (HT.getItem_tuple_cut ht' (Heap.IsSliceOf.new ..) .none (.int _ _) (by rw [e1, e2]; omega) ?_ hz) (by with_unfolding_all rfl)
  rw [e1, e2, List.drop_zero, Nat.sub_zero]
  refine ⟨_, _, rfl, fun b o e => Heap.get?_push_of_some _ (Heap.get?_push_of_some _ e), .tuple (Heap.get?_push_size _ rfl) rfl rfl ?_⟩
  exact readsAll_ints hi
end
/-! the rule -/
/-- a lambda's body that gives a tuple's key -/
def KeyBody {κ : Type} (x : Str) (body : Expr) (enc : κ → PyData) (kf : D → Option κ) : Prop :=
  ∀ {prog : Program} {w : World} {A : Around} {s : Shared} {q : Str} {scope : Scope} {L f' : Addr} {cd : Value} {K : KT} {H : Hp} {t : Addr} {its : Array Value} {xs : List V} {d : D} {l : List D} {k : κ}, Lam1 scope x → IsTup s.heap t its → Vals xs its.toList → d.tl = some l → DvL K H xs l → kf d = some k →
    its.size ≤ sizeLine → s.heap.Ns L (fun y => ([(x, .ref t)] : List (Str × Value)).reverse.lookup y) → wpAny (model prog w) A (eval body (envX q scope L f' cd [])) (KeyPure (enc k) s) (fun _ _ => False) s
def kI (i : Nat) : D → Option Int := fun d => match d.tl with
  | some l => (match l[i]? with
    | some (.int n) => some n
    | _ => none)
  | none => none
theorem keyIx {x : Str} {i : Nat} {p1 p2 p3 : Pos} {jj} (hd : (x == ("__debug__" : Str)) = false := by decide) : KeyBody x (.Subscript (.Name x p1) (.Constant (.int (i : Nat)) jj p2) p3) PyData.int (kI i) := by
  intro prog w A s q scope L f' cd K H t its xs d l k Lm ht rv e r hk hz hn
  unfold kI at hk
  rw [e] at hk
  dsimp only at hk
  split at hk
  · rename_i n en
    cases hk
    obtain ⟨u, e1, e2⟩ := r.get en
    cases e2
    obtain ⟨z, e3, e4⟩ := rv.get e1
    obtain ⟨tk, rfl⟩ := e4
    exact lam_ix Lm.kind Lm.loc hn hd ht e3 hz
  · cases hk
/-- two ints -/
def kII : D → Option (Int × Int) := fun d => match d.tl with
  | some (.int a :: .int b :: _ :: _) => some (a, b)
  | _ => none
def encII (p : Int × Int) : PyData := .tuple [.int p.1, .int p.2]
theorem keyII {x : Str} {p1 p2 p3 p4 : Pos} {jj} (hd : (x == ("__debug__" : Str)) = false := by decide) : KeyBody x (.Subscript (.Name x p1) (.Slice none (some (.Constant (.int 2) jj p2)) none p4) p3) encII kII := by
  intro prog w A s q scope L f' cd K H t its xs d l k Lm ht rv e r hk hz hn
  unfold kII at hk
  rw [e] at hk
  split at hk
  · rename_i a b c l' el
    cases el
    cases hk
    cases r with
    | cons r1 r =>
      cases r with
      | cons r2 r =>
        cases r with
        | cons r3 r =>
          cases r1
          cases r2
          obtain ⟨its⟩ := its
          cases rv with
          | cons h1 rv =>
            cases rv with
            | cons h2 rv =>
              cases rv with
              | cons h3 rv =>
                obtain ⟨t1, rfl⟩ := h1
                obtain ⟨t2, rfl⟩ := h2
                exact lam_cut (i := 2) (ns := [a, b]) Lm.kind Lm.loc hn hd ht (.cons _ _ (.cons _ _ .nil)) (by simp) hz
  · cases hk
/-- a list by its items' keys, stable -/
def sortG {κ : Type} (enc : κ → PyData) (l : List D) (ks : List κ) : List D := ((l.zip ks).mergeSort (dataLe false fun b => enc b.2)).map Prod.fst
def dSortG {κ : Type} (enc : κ → PyData) (kf : D → Option κ) (da : DE) : DE := fun δ G R EX => da δ G (fun x G1 => match x with
  | .ref a => ∃ (l : List D) (ks : List κ), G1 a = some (.lst l) ∧ l.map kf = ks.map some ∧ l.length ≤ sizeLine ∧ ∀ p, G1 p = none → R (.ref p) (updD G1 p (.lst (sortG enc l ks)))
  | _ => False) EX
theorem each_dv {K : KT} {H : Hp} {κ : Type} : ∀ {out : List Value} {bs : List (D × κ)}, EachIs (fun (v : Value) (b : D × κ) => ∃ y, RelV y v ∧ Dv K H y b.1) out bs → ∃ ys, Vals ys out ∧ DvL K H ys (bs.map Prod.fst)
  | _, _, .nil => ⟨[], .nil, .nil⟩
  | _, _, .cons ⟨y, r1, r2⟩ t => by
    obtain ⟨ys, h1, h2⟩ := each_dv t
    exact ⟨y :: ys, .cons r1 h1, .cons r2 h2⟩
theorem each_of {K : KT} {H : Hp} {κ : Type} : ∀ {xs : List V} {vs : List Value} {l : List D} {ks : List κ}, Vals xs vs → DvL K H xs l → l.length = ks.length → EachIs (fun (v : Value) (b : D × κ) => ∃ y, RelV y v ∧ Dv K H y b.1) vs (l.zip ks)
  | [], _, _, _, r, d, h => by
    cases r
    cases d
    exact .nil
  | x :: xs, _, _, ks, r, d, h => by
    cases r with
    | cons r rv =>
      cases d with
      | cons d dv =>
        cases ks with
        | nil => cases h
        | cons k ks => exact .cons ⟨_, r, d⟩ (each_of rv dv (Nat.succ.inj h))
theorem zip_kf {κ : Type} {kf : D → Option κ} : ∀ {l : List D} {ks : List κ}, l.map kf = ks.map some → ∀ b ∈ l.zip ks, kf b.1 = some b.2
  | [], [], _, b, hb => by cases hb
  | x :: l, k :: ks, h, b, hb => by
    rw [List.map_cons, List.map_cons] at h
    injection h with h1 h2
    rcases List.mem_cons.mp (show b ∈ (x, k) :: l.zip ks from hb) with rfl | hb
    · exact h1
    · exact zip_kf h2 b hb
theorem extN_up {H H1 : Hp} (e : LamX.ExtN H H1) : Up H H1 := ⟨fun a xs h => e a _ h (fun _ z => by cases z), fun a o u h => e a _ h (fun _ z => by cases z), fun a q h => e a _ h (fun ps z => LamX.codeO_ne ps z)⟩
theorem extN_h {K : KT} {G : DH} {H H1 : Hp} (hr : HRel K G H) (e : LamX.ExtN H H1) (t : LamX.Tabs K.2 H1) : HRel K G H1 := ⟨fun a c q => by
  have h := hr a c q
  have u := extN_up e
  cases c with
  | lst l => obtain ⟨xs, q, r⟩ := h; exact ⟨xs, e _ _ q (fun _ z => by cases z), r.up u⟩
  | dK l => obtain ⟨xs, q, r⟩ := h; exact ⟨xs, e _ _ q (fun _ z => by cases z), r.up u⟩
  | dT l => obtain ⟨xs, q, r⟩ := h; exact ⟨xs, e _ _ q (fun _ z => by cases z), r.up u⟩
  | ins cl fs => obtain ⟨dx, xs, q, r⟩ := h; exact ⟨dx, xs, e _ _ q (fun _ z => by cases z), r.up u⟩
  | xd l => obtain ⟨xs, q, r⟩ := h; exact ⟨xs, e _ _ q (fun _ z => by cases z), r.up u⟩, t⟩
section
variable {X : Cx} {E : EK} {e : Expr} {de : DE} {p pos lp kp : Pos} {params : Arguments} {body : Expr} {scope : Scope} {x : Str} {κ : Type} {enc : κ → PyData} {kf : D → Option κ} {c P : Addr} {j : Nat}
theorem pd_sortG (KB : KeyBody x body enc kf) (hal : ∀ a b, PySem.W.alike (enc a) (enc b) = true) (hsk : (∀ b, ∃ y r, enc b = .tuple (y :: r)) ∨ ∀ b, enc b ≠ .none ∧ ∀ xs, enc b ≠ .tuple xs) (hdep : ∀ b, (enc b).depth ≤ 1) (hkf : ∀ d k, kf d = some k → ∃ l, d.tl = some l)
    (TB : LamX.TabB X.base X.mg c P) (hcode : X.env.code = .ref c) (hm : (P, X.env.qual ++ "<lambda>") ∈ E.2) (hu : ∀ q ∈ E.2, q.1 = P → q.2 = X.env.qual ++ "<lambda>")
    (L : Lam1 scope x) (hdef : defaultsOf params X.env = ([], [])) (hbind : ∀ pm c' ctv v, bindArgs (kla_fn "<lambda>" (X.env.qual ++ "<lambda>") params body scope [] pm (.ref c') ctv) ⟨[v], []⟩ = pure [(x, v)])
    (hr : Room (j + 2) X.A) (hf : X.mg "sorted" = none) (ha : PD X E e de) (hg : Gl X "sorted" := by rfl)
    (hs : starEach (e :: []) X.env = (false, eval e X.env) :: starEach [] X.env := by rfl)
    (he : backTo pos (starEach (e :: []) X.env) = (false, eval e X.env) :: backTo pos (starEach [] X.env) := by rfl) (hpl : (backTo pos (starEach (e :: []) X.env)).any (·.1) = false := by rfl)
    (hall : (backToKw pos (keywordEach [⟨some "key", .Lambda params body scope lp, kp⟩] X.env)).all (·.1.isSome) = true := by rfl) (hnone : (backToKw pos (keywordEach [⟨some "key", .Lambda params body scope lp, kp⟩] X.env)).any (·.1.isNone) = false := by rfl)
    (hks : (backToKw pos (keywordEach [⟨some "key", .Lambda params body scope lp, kp⟩] X.env)).filterMap (·.1) = (["key"] : List Str) := by rfl) :
    PD X E (.Call (.Name "sorted" p) [e] [⟨some "key", .Lambda params body scope lp, kp⟩] pos) (dSortG enc kf de) := by
  refine ⟨⟨fun pins s σ H Q I h => ?_⟩⟩
  obtain ⟨δ, G, R, EX, sr, hG, h, cr, cx⟩ := h
  refine wpAny_Call_Name_kw (ld_blt I hg hf (show bootBuiltins "sorted" = some (.builtin "sorted") by decide +kernel) ?_)
  refine PyProof.Rows.callWith_kw (thn ((pa_cons ha.pe pa_nil hs).run pos pins s σ H (fun vs H1 => ∃ (a : Addr) (l : List D) (ks : List κ) (G1 : DH), vs = [.ref a] ∧ Up H H1 ∧ HRel (kt X E) G1 H1 ∧ G1 a = some (.lst l) ∧ l.map kf = ks.map some ∧ l.length ≤ sizeLine ∧ ∀ p, G1 p = none → R (.ref p) (updD G1 p (.lst (sortG enc l ks)))) I
    ⟨δ, G, _, EX, sr, hG, h, fun v H1 d G1 u1 h1 r1 q1 => ?_, cx⟩) fun us s1 ⟨vs, H1, I1, r1, q1⟩ => ?_) he hpl hall hnone
  · dsimp only at q1
    split at q1
    · cases r1
      obtain ⟨l, ks, e1, e2, e3, q⟩ := q1
      exact ⟨_, l, ks, G1, rfl, u1, h1, e1, e2, e3, q⟩
    · exact False.elim q1
  · obtain ⟨a, l, ks, G1, rfl, u1, h1, e1, e2, e3, q⟩ := q1
    rw [hks]
    cases r1 with
    | cons ra rn =>
      cases rn
      cases ra
      show wpAny _ _ (evalAll ((do let v ← eval (.Lambda params body scope lp) X.env; standAt pos; pure v) :: [])) _ _ s1
      refine wpAny_evalAll_cons (wpAny_bind (LamX.lam_make2 (T := E.2) I1 TB hcode hm hu h1.t hdef (fun y hy z => absurd z (L.free y hy)) fun f c' pm ctv H2 s2 I2 ex tb hf2 hfn hfr hc2 => wpAny_bind (wpAny_standAt (wpAny_pure (wpAny_evalAll_nil ?_)))))
      have hcl : cloFrom X.env.cells scope.names [] = [] := by
        have z : ∀ names : List (Str × NameKind), (∀ y ∈ names, y.2 ≠ .free) → cloFrom X.env.cells names [] = [] := fun names => by
          induction names with
          | nil => intro _; rfl
          | cons y r ih =>
            intro hy
            obtain ⟨n, kd⟩ := y
            have h0 := hy (n, kd) List.mem_cons_self
            have ih := ih fun y hm => hy y (List.mem_cons_of_mem _ hm)
            unfold cloFrom
            cases kd <;> first | exact ih | exact absurd rfl h0
        exact z _ L.free
      rw [hcl] at hf2
      have h2 : HRel (kt X E) G1 H2 := extN_h h1 ex tb
      obtain ⟨xs, ha2, rl⟩ := h2 _ _ e1
      obtain ⟨its, rv, pl, hz⟩ := I2.list (SqL.of ha2)
      have hlk : l.length = ks.length := by
        have z := congrArg List.length e2
        rwa [List.length_map, List.length_map] at z
      have hbs : (l.zip ks).length = l.length := by rw [List.length_zip, ← hlk, Nat.min_self]
      have hcr : s2.heap.CodeRec (.ref c') (X.env.qual ++ "<lambda>") := by
        obtain ⟨⟨oc, vs, t, hoc, hdc, hvc⟩, _, _⟩ := I2.hok c' _ hc2
        exact ⟨c', oc, vs, t, rfl, hoc, hdc, hvc⟩
      have hun := hr.units
      refine PySem.W.sorted_key_data (b := false) (R := fun (v : Value) (b : D × κ) => ∃ y, RelV y v ∧ Dv (kt X E) H2 y b.1) (fun b : D × κ => enc b.2) pl.isList (each_of rv rl hlk) ?hal ?hsk (by rw [hbs]; exact e3) (fun b _ => ?_) (PyProof.Rows.ksk_s1 _ _) (fun _ => PyProof.Rows.ksk_l1 _ _) (fun _ => PyProof.Rows.ksk_t1 _ _) (fun v b ⟨y, ry, dy⟩ hb h' tk kp => ?_) fun out cc h' tk kp fr hD hlen eo => ?_
      case hal =>
        exact AllAlike.of fun b b' => hal _ _
      case hsk =>
        rcases hsk with z | z
        · exact Sortable.tuples fun b => z _
        · exact Sortable.others fun b => z _
      · have := hdep b.2
        omega
      · have kk := zip_kf e2 b hb
        obtain ⟨l', el⟩ := hkf _ _ kk
        obtain ⟨t, xs', ey, hq, r'⟩ := dy.sqT el
        subst ey
        obtain rfl : v = .ref t := ry
        obtain ⟨its', rv', pt, hz'⟩ := I2.tuple hq
        have pt' : IsTup h' t its'.toArray := by
          obtain ⟨o, ho, rest⟩ := pt
          exact ⟨o, kp _ _ ho, rest⟩
        refine lam_key (s := { s2 with heap := h', toks := tk }) L (kp _ _ hf2) (hcr.keeps kp) hr.in1.in1.depth (I2.nolimit.keeps kp) (hbind pm c' ctv _) fun h₁ tk1 k1 hn => ?_
        have pt2 : IsTup h₁ t its'.toArray := by
          obtain ⟨o, ho, rest⟩ := pt'
          exact ⟨o, k1 _ _ ho, rest⟩
        exact KB (s := { s2 with heap := h₁, toks := tk1 }) L pt2 (by simpa using rv') el r' kk (by rw [List.size_toArray, ← rv'.length]; exact hz') hn
      · obtain ⟨ys, v1, v2⟩ := each_dv eo
        have fp : H2 (s2.heap.objs.size + 1) = none := I2.hok.fresh (Nat.le_succ _)
        have I3 : Inv X pins σ (upd H2 (s2.heap.objs.size + 1) (.lst ys)) { s2 with heap := h', toks := tk } := I2.laid kp (Nat.le_succ _) ⟨by rw [v2.length, List.length_map, List.length_mergeSort, hbs]; exact e3, _, _, v1, hD⟩
        have un := Up.new (o := .lst ys) fp
        exact ⟨.ref (s2.heap.objs.size + 1), _, I3, rfl, cr _ _ _ _ (u1.trans ((extN_up ex).trans un)) (h2.new (c := .lst _) fp ⟨ys, upd_same, v2.up un⟩) (.ref _) (q _ (h2.none fp))⟩
end
end Cc
/-! ### sorted of data, membership at any depth, pairs of names, while -/
namespace Cc
open PySem PySem.Spec PyProof.Rows L2
open PySem.W (EachIs AllAlike Sortable dataLe)
def sortV (bs : List (V × PyData)) : List V := (bs.mergeSort (dataLe false Prod.snd)).map Prod.fst
def rSortD (K : PySem.W.Frag) : List V → Hp → VK → Prop := fun vs H Q => ∃ (a : Addr) (bs : List (V × PyData)), vs = [V.ref a] ∧ SqL K H a (bs.map Prod.fst) ∧ (∀ b ∈ bs, Dp K H b.1 b.2) ∧ AllAlike (bs.map Prod.snd) ∧ Sortable (bs.map Prod.snd) ∧ (∀ b ∈ bs, b.2.depth ≤ 40) ∧
  bs.length ≤ sizeLine ∧ ∀ p, H p = none → Q (.ref p) (upd H p (.lst (sortV bs)))
theorem each_of_vals {P : Value → (V × PyData) → Prop} : ∀ {bs : List (V × PyData)} {vs : List Value}, Vals (bs.map Prod.fst) vs → (∀ b ∈ bs, ∀ v, RelV b.1 v → P v b) → EachIs P vs bs
  | [], _, r, _ => by cases r; exact .nil
  | b :: bs, _, r, h => by
    cases r with
    | cons r rs => exact .cons (h b List.mem_cons_self _ r) (each_of_vals rs fun c hc => h c (List.mem_cons_of_mem _ hc))
theorem vals_of_each : ∀ {bs : List (V × PyData)} {vs : List Value}, EachIs (fun v (b : V × PyData) => RelV b.1 v) vs bs → Vals (bs.map Prod.fst) vs
  | _, _, .nil => .nil
  | _, _, .cons r t => .cons r (vals_of_each t)
section
variable {X : Cx}
theorem cr_sortD (hu : X.A.units + 42 < cLine) : CallR X (.builtin "sorted") (rSortD X.K) := by
  intro pins s σ H vs us Q I r h
  obtain ⟨a, bs, rfl, hs, hd, hal, hk, hdep, hz, q⟩ := h
  obtain ⟨its, rv, hl, _⟩ := I.list hs
  rw [Vals.ref1 r]
  refine PySem.W.sorted_data (R := fun v (b : V × PyData) => RelV b.1 v) (enc := Prod.snd) hl.isList (each_of_vals rv fun b _ v r => r) (each_of_vals rv fun b hb v r => Dp.reads I b.2 b.1 v (hd b hb) r) hal hk hz (fun b hb => by have := hdep b hb; omega) fun out ho eo => ?_
  obtain ⟨ep, he'⟩ := PyProof.Rows.sortedAll_at s.heap its out.toArray
  have hlen : (sortV bs).length ≤ sizeLine := by unfold sortV; rw [List.length_map, List.length_mergeSort]; exact hz
  refine ⟨.ref _, upd H (s.heap.objs.size + 1) (.lst (sortV bs)), I.laid (t' := s.toks) (fun _ _ => PyProof.Rows.sortedAll_old) (Nat.le_succ _) ⟨hlen, out, ep, vals_of_each eo, he'⟩, rfl, q _ (I.hok.fresh (Nat.le_succ _))⟩
/-- a list by its items' order -/
def sortD (l : List D) (ts : List PyData) : List D := ((l.zip ts).mergeSort (dataLe false Prod.snd)).map Prod.fst
def lstOf (G : DH) (x : D) : Option (List D) := match x with
  | .ref a => (match G a with
    | some (.lst l) => some l
    | _ => none)
  | .rol l => some l
  | _ => none
theorem lstOf_sq {K : KT} {G : DH} {H : Hp} {v : V} {y : D} {l : List D} (hr : HRel K G H) (r : Dv K H v y) (e : lstOf G y = some l) : ∃ p xs, v = .ref p ∧ SqL K.1 H p xs ∧ DvL K H xs l := by
  unfold lstOf at e
  split at e
  · cases r
    split at e
    · rename_i a l' ea
      cases e
      obtain ⟨xs, e1, r1⟩ := hr _ _ ea
      exact ⟨_, _, rfl, SqL.of e1, r1⟩
    · cases e
  · cases e
    cases r with
    | rol hq r => exact ⟨_, _, rfl, hq.sqL, r⟩
  · cases e
def dSorted : DC := fun xs G R => match xs with
  | [x] => ∃ l ts, lstOf G x = some l ∧ RddL G l ts ∧ AllAlike ts ∧ Sortable ts ∧ (∀ t ∈ ts, t.depth ≤ 40) ∧ l.length ≤ sizeLine ∧ ∀ p, G p = none → R (.ref p) (updD G p (.lst (sortD l ts)))
  | _ => False
theorem RddL.len {G : DH} : ∀ {l : List D} {ts : List PyData}, RddL G l ts → l.length = ts.length
  | _, _, .nil => rfl
  | _, _, .cons _ r => congrArg (· + 1) (RddL.len r)
theorem dpAll_at {K : PySem.W.Frag} {H : Hp} : ∀ {vs : List V} {ts : List PyData}, DpAll K H vs ts → ∀ b ∈ vs.zip ts, Dp K H b.1 b.2
  | _, _, .nil, b, hb => by cases hb
  | _, _, .cons h r, b, hb => by
    rcases List.mem_cons.mp (show b ∈ (_, _) :: _ from hb) with rfl | hb
    · exact h
    · exact dpAll_at r b hb
theorem zip_pair {α β γ : Type} {P : α → β → Prop} : ∀ {vs : List α} {ds : List β} {ts : List γ}, vs.length = ds.length → True
  | _, _, _, _ => trivial
theorem dvL_zip {K : KT} {H : Hp} : ∀ {vs : List V} {ds : List D} {ts : List PyData}, DvL K H vs ds → vs.length = ts.length → EachIs (fun (a : V × PyData) (b : D × PyData) => Dv K H a.1 b.1 ∧ a.2 = b.2) (vs.zip ts) (ds.zip ts)
  | _, _, [], .nil, _ => .nil
  | _, _, t :: ts, .cons h r, e => .cons ⟨h, rfl⟩ (dvL_zip r (Nat.succ.inj e))
theorem dvL_of_each {K : KT} {H : Hp} : ∀ {as : List (V × PyData)} {bs : List (D × PyData)}, EachIs (fun (a : V × PyData) (b : D × PyData) => Dv K H a.1 b.1 ∧ a.2 = b.2) as bs → DvL K H (as.map Prod.fst) (bs.map Prod.fst)
  | _, _, .nil => .nil
  | _, _, .cons h r => .cons h.1 (dvL_of_each r)
/-- pairs sorted by an equal rank stay paired -/
theorem each_sort {α β : Type} {P : α → β → Prop} {le : α → α → Bool} {le' : β → β → Bool} (hle : ∀ a b c d, P a b → P c d → le a c = le' b d) :
    ∀ {as : List α} {bs : List β}, EachIs P as bs → EachIs P (as.mergeSort le) (bs.mergeSort le') := by
  intro as bs h
  have key : ∀ {as : List α} {bs : List β}, EachIs P as bs → ∃ zs : List (α × β), as = zs.map Prod.fst ∧ bs = zs.map Prod.snd ∧ ∀ z ∈ zs, P z.1 z.2 := by
    intro as bs h
    induction h with
    | nil => exact ⟨[], rfl, rfl, fun z hz => by cases hz⟩
    | cons h _ ih =>
      obtain ⟨zs, rfl, rfl, hz⟩ := ih
      refine ⟨(_, _) :: zs, rfl, rfl, fun z hm => ?_⟩
      rcases List.mem_cons.mp hm with rfl | hm
      · exact h
      · exact hz z hm
  obtain ⟨zs, rfl, rfl, hz⟩ := key h
  have back : ∀ {zs : List (α × β)}, (∀ z ∈ zs, P z.1 z.2) → EachIs P (zs.map Prod.fst) (zs.map Prod.snd) := by
    intro zs
    induction zs with
    | nil => intro _; exact .nil
    | cons z zs ih => intro h; exact .cons (h z List.mem_cons_self) (ih fun y hy => h y (List.mem_cons_of_mem _ hy))
  rw [← List.map_mergeSort (r := fun z y : α × β => le z.1 y.1) (fun a _ b _ => rfl), ← List.map_mergeSort (r := fun z y : α × β => le z.1 y.1) (s := le') (f := Prod.snd) (l := zs) fun a ha b hb => hle _ _ _ _ (hz a ha) (hz b hb)]
  exact back fun z hm => hz z ((List.mergeSort_perm _ _).mem_iff.mp hm)
theorem cd_sorted (hu : X.A.units + 64 < cLine) : CD X (.builtin "sorted") dSorted := ⟨_, cr_sortD (by omega), fun T x H d G R Q hr r q cr => by
  unfold dSorted at q
  split at q
  · cases r with
    | cons r1 r2 =>
      cases r2
      obtain ⟨l, ts, e, rd, hal, hk, hdep, hz, q⟩ := q
      obtain ⟨p, xs, rfl, hq, rl⟩ := lstOf_sq hr r1 e
      have hl : xs.length = ts.length := rl.length.trans rd.len
      have e1 : (xs.zip ts).map Prod.fst = xs := List.map_fst_zip (by omega)
      have e2 : (xs.zip ts).map Prod.snd = ts := List.map_snd_zip (by omega)
      refine ⟨p, xs.zip ts, rfl, by rw [e1]; exact hq, dpAll_at (RddL.dp hr rd rl), by rw [e2]; exact hal, by rw [e2]; exact hk, fun b hb => hdep _ (by rw [← e2]; exact List.mem_map.mpr ⟨b, hb, rfl⟩), by rw [List.length_zip, rl.length]; omega, fun n hn => ?_⟩
      have un := Up.new (o := .lst (sortV (xs.zip ts))) hn
      refine cr _ _ _ _ un (hr.new (c := .lst (sortD l ts)) hn ⟨sortV (xs.zip ts), upd_same, ?_⟩) (.ref n) (q n (hr.none hn))
      have z := each_sort (le := dataLe false Prod.snd) (le' := dataLe false (Prod.snd : D × PyData → PyData)) (fun a b c d h1 h2 => by
        show PySem.W.dataLe false (fun t : PyData => t) a.2 c.2 = PySem.W.dataLe false (fun t : PyData => t) b.2 d.2
        rw [h1.2, h2.2]) (dvL_zip rl hl)
      exact (dvL_of_each z).up un
  · exact False.elim q⟩
/-! membership at any depth, in a tuple -/
def rInT (neg : Bool) (K : PySem.W.Frag) : R2 := fun x y H Q => ∃ d ds, Dp K H x d ∧ Dp K H y (.tuple ds) ∧ SeqAt.shaped d = true ∧ SeqAt.shaped (.tuple ds) = true ∧ Q (.bl (xor neg (ds.any fun z => PyData.eqv z d))) H
theorem op_inT (hu : X.A.units + 64 < cLine) : OpR X (compareOp .In) (rInT false X.K) := by
  intro pins s σ H x y v u Q I rx ry h
  obtain ⟨d, ds, hd, he, sd, se, q⟩ := h
  obtain ⟨as, r1⟩ := Dp.reads I d x v hd rx
  obtain ⟨bs, r2⟩ := Dp.reads I (.tuple ds) y u he ry
  refine SeqAt.in_tuple_reads r2 r1 (SeqAt.canLay_of_shaped se) (SeqAt.canLay_of_shaped sd) ?_ ⟨.bl _, H, I, rfl, by simpa using q⟩
  have z := SeqAt.depth_of_shaped se
  rw [PyData.depth] at z
  omega
theorem op_notInT (hu : X.A.units + 64 < cLine) : OpR X (compareOp .NotIn) (rInT true X.K) := by
  intro pins s σ H x y v u Q I rx ry h
  obtain ⟨d, ds, hd, he, sd, se, q⟩ := h
  obtain ⟨as, r1⟩ := Dp.reads I d x v hd rx
  obtain ⟨bs, r2⟩ := Dp.reads I (.tuple ds) y u he ry
  refine SeqAt.notIn_tuple_reads r2 r1 (SeqAt.canLay_of_shaped se) (SeqAt.canLay_of_shaped sd) ?_ ⟨.bl _, H, I, rfl, by simpa using q⟩
  have z := SeqAt.depth_of_shaped se
  rw [PyData.depth] at z
  omega
def dInT (neg : Bool) : D2 := fun x y G R => ∃ t ds, Rdd G x t ∧ Rdd G y (.tuple ds) ∧ SeqAt.shaped t = true ∧ SeqAt.shaped (.tuple ds) = true ∧ R (.bl (xor neg (ds.any fun z => PyData.eqv z t))) G
theorem lift_inT (neg : Bool) (T : List (Addr × Str)) : Lift2 (X.K, T) (rInT neg X.K) (dInT neg) := fun x y H d e G R Q hr rx ry q cr => by
  obtain ⟨t, ds, h1, h2, s1, s2, q⟩ := q
  exact ⟨t, ds, h1.dp hr rx, h2.dp hr ry, s1, s2, cr _ _ _ _ (Up.refl H) hr (.bl _) q⟩
theorem od_inT (hu : X.A.units + 64 < cLine) : OD X (compareOp .In) (dInT false) := ⟨_, op_inT hu, lift_inT false⟩
theorem od_notInT (hu : X.A.units + 64 < cLine) : OD X (compareOp .NotIn) (dInT true) := ⟨_, op_notInT hu, lift_inT true⟩
end
/-! pairs of names -/
section
variable {X : Cx} {E : EK} {a b c : Expr} {dl : DA} {pos : Pos} {i j l : Nat} {x y z : Str} {px py pz pt : Pos} {k1 k2 pt2}
def sPar2 (i j : Nat) (dl : DA) : DSt := fun D δ G => dl δ G (fun xs G1 => match xs with
  | [u, v] => D.nx ((δ.set i (some u)).set j (some v)) G1
  | _ => False) D.ex
theorem pds_par2 (hc : X.calm = true) (hN : X.N.Nodup) (hi : X.N[i]? = some x) (hj : X.N[j]? = some y) (hij : i ≠ j)
    (hx : X.env.scope.names.lookup x = some .local) (hy : X.env.scope.names.lookup y = some .local) (ha : PDA X E [a, b] dl)
    (hw : swappedStores [.Tuple [.Name x px, .Name y py] k1 pt] (.Tuple [a, b] k2 pt2) X.env = pure (some [x, y]) := by rfl)
    (hs : swapsWithSole [.Tuple [.Name x px, .Name y py] k1 pt] (.Tuple [a, b] k2 pt2) pos.line X.env = pure false := by rfl) :
    PDS X E (.Assign [.Tuple [.Name x px, .Name y py] k1 pt] (.Tuple [a, b] k2 pt2) pos) (sPar2 i j dl) :=
  ⟨imS (ps_par hc hN hi hj hij hx hy ha.pa hw hs) fun Dn σ H ⟨δ, G, DD, sr, hr, h, cn, ct, cb, cc, cx⟩ => ⟨δ, G, _, DD.ex, sr, hr, h, fun vs H1 ds G1 u1 h1 r1 q1 => by
    cases r1 with
    | nil => exact False.elim q1
    | cons r1 r =>
      cases r with
      | nil => exact False.elim q1
      | cons r2 r =>
        cases r with
        | nil => exact ⟨_, _, rfl, cn _ _ _ _ u1 (((sr.up u1).set r1).set r2) h1 q1⟩
        | cons => exact False.elim q1, cx⟩⟩
def sPar3 (i j l : Nat) (dl : DA) : DSt := fun D δ G => dl δ G (fun xs G1 => match xs with
  | [u, v, w] => D.nx (((δ.set i (some u)).set j (some v)).set l (some w)) G1
  | _ => False) D.ex
theorem pds_par3 (hc : X.calm = true) (hN : X.N.Nodup) (hi : X.N[i]? = some x) (hj : X.N[j]? = some y) (hl : X.N[l]? = some z) (hij : i ≠ j) (hil : i ≠ l) (hjl : j ≠ l)
    (hx : X.env.scope.names.lookup x = some .local) (hy : X.env.scope.names.lookup y = some .local) (hz : X.env.scope.names.lookup z = some .local) (ha : PDA X E [a, b, c] dl)
    (hw : swappedStores [.Tuple [.Name x px, .Name y py, .Name z pz] k1 pt] (.Tuple [a, b, c] k2 pt2) X.env = pure (some [x, y, z]) := by rfl)
    (hs : swapsWithSole [.Tuple [.Name x px, .Name y py, .Name z pz] k1 pt] (.Tuple [a, b, c] k2 pt2) pos.line X.env = pure false := by rfl) :
    PDS X E (.Assign [.Tuple [.Name x px, .Name y py, .Name z pz] k1 pt] (.Tuple [a, b, c] k2 pt2) pos) (sPar3 i j l dl) :=
  ⟨imS (ps_par3 hc hN hi hj hl hij hil hjl hx hy hz ha.pa hw hs) fun Dn σ H ⟨δ, G, DD, sr, hr, h, cn, ct, cb, cc, cx⟩ => ⟨δ, G, _, DD.ex, sr, hr, h, fun vs H1 ds G1 u1 h1 r1 q1 => by
    cases r1 with
    | nil => exact False.elim q1
    | cons r1 r =>
      cases r with
      | nil => exact False.elim q1
      | cons r2 r =>
        cases r with
        | nil => exact False.elim q1
        | cons r3 r =>
          cases r with
          | nil => exact ⟨_, _, _, rfl, cn _ _ _ _ u1 ((((sr.up u1).set r1).set r2).set r3) h1 q1⟩
          | cons => exact False.elim q1, cx⟩⟩
/-! while -/
def sWhile (c : DT) (t : DSt) : DSt := fun D δ G => ∃ W : Nat → DS → DH → Prop, (∃ m, W m δ G) ∧ ∀ m δ G, W m δ G →
  c δ G (fun b G1 => if b = true then t { D with nx := fun δ' G' => ∃ m', m' < m ∧ W m' δ' G', ct := fun δ' G' => ∃ m', m' < m ∧ W m' δ' G', bk := D.nx } δ G1 else D.nx δ G1) D.ex
theorem pds_while {cd : Expr} {body : List Stmt} {tc : DT} {tb : DSt} (hp : PassesOwn (model X.prog X.w) X.A X.env X.xe) (hc : PDT X E cd tc) (hb : PDSs X E body tb) : PDS X E (.While cd body [] pos) (sWhile tc tb) :=
  ⟨imS (ps_while hp hc.pt hb.ps) fun Dn σ H ⟨δ, G, DD, sr, hr, h, cn, ct, cb, cc, cx⟩ => by
    obtain ⟨W, ⟨m0, w0⟩, turn⟩ := h
    refine ⟨fun m σ' H' => ∃ δ' G', SRel (kt X E) H' σ' δ' ∧ HRel (kt X E) G' H' ∧ Up H H' ∧ W m δ' G', ⟨m0, δ, G, sr, hr, Up.refl H, w0⟩, ?_⟩
    rintro m σ1 H1 ⟨δ1, G1, s1, h1, u1, w1⟩
    refine ⟨δ1, G1, _, _, s1, h1, turn m δ1 G1 w1, fun b H2 G2 u2 h2 q2 => ?_, cx.up u1⟩
    have u12 := u1.trans u2
    cases b with
    | true =>
      rw [if_pos rfl] at q2
      show if true = true then _ else _
      rw [if_pos rfl]
      exact ⟨fun σ' H' => ∃ m', m' < m ∧ ∃ δ' G', SRel (kt X E) H' σ' δ' ∧ HRel (kt X E) G' H' ∧ Up H H' ∧ W m' δ' G', fun σ' H' z => z,
        δ1, G2, _, s1.up u2, h2, q2, fun σ3 H3 δ3 G3 u3 s3 h3 ⟨m', l, w⟩ => ⟨m', l, δ3, G3, s3, h3, u12.trans u3, w⟩, ct.up u12, cn.up u12, fun σ3 H3 δ3 G3 u3 s3 h3 ⟨m', l, w⟩ => ⟨m', l, δ3, G3, s3, h3, u12.trans u3, w⟩, cx.up u12⟩
    | false =>
      rw [if_neg Bool.false_ne_true] at q2
      show if false = true then _ else _
      rw [if_neg Bool.false_ne_true]
      exact cn _ _ _ _ u12 (s1.up u2) h2 q2⟩
end
/-! keys -/
theorem encI_alike : ∀ a b : Int, PySem.W.alike (PyData.int a) (PyData.int b) = true := fun a b => by simp [PySem.W.alike]
theorem encI_sort : (∀ b : Int, ∃ y r, PyData.int b = .tuple (y :: r)) ∨ ∀ b : Int, PyData.int b ≠ .none ∧ ∀ xs, PyData.int b ≠ .tuple xs := .inr fun b => ⟨(by intro h; cases h), (by intro xs h; cases h)⟩
theorem encI_depth : ∀ b : Int, (PyData.int b).depth ≤ 1 := fun b => by simp [PyData.depth]
theorem kI_tl {i : Nat} : ∀ d k, kI i d = some k → ∃ l, d.tl = some l := fun d k h => by
  unfold kI at h
  split at h
  · rename_i l e
    exact ⟨l, e⟩
  · cases h
theorem encII_alike : ∀ a b : Int × Int, PySem.W.alike (encII a) (encII b) = true := fun a b => by simp [encII, PySem.W.alike, PySem.W.alikeAll]
theorem encII_sort : (∀ b : Int × Int, ∃ y r, encII b = .tuple (y :: r)) ∨ ∀ b : Int × Int, encII b ≠ .none ∧ ∀ xs, encII b ≠ .tuple xs := Or.inl fun b => ⟨.int b.1, [.int b.2], rfl⟩
theorem encII_depth : ∀ b : Int × Int, (encII b).depth ≤ 1 := fun b => by simp [encII, PyData.depth, PyData.depthAll]
theorem kII_tl : ∀ d k, kII d = some k → ∃ l, d.tl = some l := fun d k h => by
  unfold kII at h
  split at h
  · rename_i e
    exact ⟨_, e⟩
  · cases h
end Cc
/-! ### plain reasoning over readings; the draws, the comparison -/
namespace Cc
open PySem PySem.Spec PyProof.Rows L2
/-! loops -/
theorem goFor_by {ok : DH → Prop} {g : DG} {tb : DSt} {Dn : DEnds} (I : List D → DS → DH → Prop) (hok : ∀ xs δ G, I xs δ G → ok G) (hnil : ∀ δ G, I [] δ G → Dn.nx δ G)
    (hs : ∀ x xs δ G (N : DS → DH → Prop), I (x :: xs) δ G → (∀ δ' G', I xs δ' G' → N δ' G') → g x δ G (fun δ2 G2 => tb { Dn with nx := N, ct := N, bk := Dn.nx } δ2 G2) Dn.ex) :
    ∀ (l : List D) (δ : DS) (G : DH), I l δ G → goFor ok g tb Dn l δ G
  | [], δ, G, h => ⟨hok _ _ _ h, hnil _ _ h⟩
  | x :: xs, δ, G, h => ⟨hok _ _ _ h, hs x xs δ G _ h fun δ' G' h' => goFor_by I hok hnil hs xs δ' G' h'⟩
theorem goLc_by {ok : DH → Prop} {a : Addr} {g : DG} {tt : DT} {te : DE} {k : DH → Prop} {δ : DS} (I : List D → DH → Prop) (hok : ∀ xs G, I xs G → ok G) (hnil : ∀ G, I [] G → k G)
    (hs : ∀ x xs G (N : DH → Prop), I (x :: xs) G → (∀ G', I xs G' → N G') → g x δ G (fun δ2 G2 => tt δ2 G2 (fun b G3 => if b = true then te δ2 G3 (fun y G4 => ∃ acc, G4 a = some (.lst acc) ∧ acc.length < sizeLine ∧ N (updD G4 a (.lst (acc ++ [y])))) noX else N G3) noX) noX) :
    ∀ (l : List D) (G : DH), I l G → goLc ok a g tt te k δ l G
  | [], G, h => ⟨hok _ _ h, hnil _ h⟩
  | x :: xs, G, h => ⟨hok _ _ h, hs x xs G _ h fun G' h' => goLc_by I hok hnil hs xs G' h'⟩
/-- a comprehension that changes nothing -/
theorem goLc_map {ok : DH → Prop} {a : Addr} {g : DG} {tt : DT} {te : DE} {k : DH → Prop} {δ : DS} {G0 : DH} (F : D → Option D) (l : List D) (hl : l.length ≤ sizeLine) (hok : ∀ acc, ok (updD G0 a (.lst acc)))
    (hk : k (updD G0 a (.lst (l.filterMap F))))
    (hs : ∀ x ∈ l, ∀ acc (N : DH → Prop), acc.length < sizeLine → (match F x with
      | none => N (updD G0 a (.lst acc))
      | some y => N (updD G0 a (.lst (acc ++ [y])))) → g x δ (updD G0 a (.lst acc)) (fun δ2 G2 => tt δ2 G2 (fun b G3 => if b = true then te δ2 G3 (fun y G4 => ∃ acc, G4 a = some (.lst acc) ∧ acc.length < sizeLine ∧ N (updD G4 a (.lst (acc ++ [y])))) noX else N G3) noX) noX) :
    goLc ok a g tt te k δ l (updD G0 a (.lst [])) := by
  refine goLc_by (fun xs G => ∃ ys, l = ys ++ xs ∧ G = updD G0 a (.lst (ys.filterMap F))) (fun xs G ⟨ys, _, e⟩ => by rw [e]; exact hok _) (fun G ⟨ys, e1, e⟩ => by
    rw [List.append_nil] at e1
    subst e1
    rw [e]
    exact hk) (fun x xs G N ⟨ys, e1, e2⟩ hN => ?_) l _ ⟨[], rfl, rfl⟩
  subst e2
  have hlen : (ys.filterMap F).length < sizeLine := by
    have h1 := List.length_filterMap_le F ys
    rw [e1, List.length_append, List.length_cons] at hl
    omega
  refine hs x (by rw [e1]; simp) _ N hlen ?_
  cases q : F x with
  | none => exact hN _ ⟨ys ++ [x], by rw [e1]; simp, by simp [List.filterMap_append, q]⟩
  | some y => exact hN _ ⟨ys ++ [x], by rw [e1]; simp, by simp [List.filterMap_append, q]⟩
/-! forgetting what is not needed -/
def frg (R : DK) : DK := fun v G => ∃ G1, Sub G1 G ∧ R v G1
theorem frg_of {R : DK} {v : D} {G : DH} (h : R v G) : frg R v G := ⟨G, Sub.refl G, h⟩
theorem clo_frg {K : KT} {H : Hp} {Q : VK} {R : DK} (h : CloR K H Q R) : CloR K H Q (frg R) := fun v H' d G' u hr r ⟨G1, s, q⟩ => h v H' d G1 u (hr.sub s) r q
section
variable {P : Program} {w : World} {K : PySem.W.Frag} {T : List (Addr × Str)} {cv : Value → Prop} {mg : Str → Option Value} {base : Heap} {N ps : List Str} {x qual : Str} {params : Arguments} {body : List Stmt} {scope : Scope} {dvs : List V} {kws : List (Str × V)} {f : Addr} {fd : FuncData} {k : Nat} {sb : DSt} {sd : SpD}
theorem okF (F : FunD K x qual params body scope dvs kws f fd) (S : FnScope N ps scope) (hcv : cv fd.code) (len : ∀ ds G R EX, sd ds G R EX → ds.length = ps.length) (B : BodyD P w K T cv mg base N qual scope body k sb)
    (hp : ∀ ds G R EX, sd ds G R EX → sb (endsD (frg R) EX) (startD N ds) G) : FnOk P w K mg base (L2N.CX P w) (k + 1) f fd ps (upF (K, T) sd) := by
  have z := okD (T := T) (sd := fun ds G R EX => ds.length = ps.length ∧ sb (endsD R EX) (startD N ds) G) F S hcv (fun ds G R EX h => h.1) B (fun ds G R EX h => h.2)
  exact z.imp fun vs H Q E ⟨ds, G, R, EX, dv, hr, q, cr, cx⟩ => ⟨ds, G, frg R, EX, dv, hr, ⟨len _ _ _ _ q, hp _ _ _ _ q⟩, clo_frg cr, cx⟩
end
/-! the draws -/
def Draws (l : List D) : Prop := ∃ (x y : Int) (zs : List Int), l = .int x :: .int y :: zs.map D.int
def sd__law_off : SpD := fun ds G R _ => ∃ (a : Addr) (m : Int) (l : List D), ds = [.ref a, .int m] ∧ G a = some (.lst l) ∧ Draws l ∧ 0 < m ∧ m < 1073741824 ∧ ∀ r l', 0 ≤ r → r < m → Draws l' → R (.int r) (updD G a (.lst l'))
def seqI (G : DH) (x : D) (ns : List Int) : Prop := (x = .rol (ns.map D.int) ∨ x = .wol (ns.map D.int)) ∨ ∃ a, x = .ref a ∧ G a = some (.lst (ns.map D.int))
def sd__law_dice : SpD := fun ds G R _ => ∃ (x : D) (k : Int) (ns : List Int), ds = [x, .int k] ∧ seqI G x ns ∧ ns.length ≤ 1000 ∧ ∀ p l, G p = none → Draws l → R (.ref p) (updD G p (.lst l))
mutual
/-- no list, no tuple of it is very long -/
def lean : PyData → Bool
  | .list xs => decide (xs.length ≤ 100000) && leanAll xs
  | .tuple xs => decide (xs.length ≤ 100000) && leanAll xs
  | .dict _ => false
  | _ => true
def leanAll : List PyData → Bool
  | [] => true
  | x :: xs => lean x && leanAll xs
end
def sd__law_alike : Nat → SpD
  | 0 => fun _ _ _ _ => False
  | k + 1 => fun ds G R _ => ∃ (x y : D) (t : PyData), ds = [x, y] ∧ Rdd G x t ∧ Rdd G y t ∧ t.depth ≤ k ∧ lean t = true ∧ R (.bl true) G
def b__law_off : DSt :=
  (sSeq (sIf (dAnd (dTest (dOp dEq (dOp dIx (dVar 0) (dC (.int 1))) (dC (.int 0)))) (dTest (dOp dGt (dCB dLen (dCons (dVar 0) dNil)) (dC (.int 2))))) (sAsg (dBM "list" mPopAt (dVar 0) (dCons (dC (.int 2)) dNil)) (gS (dVar 0) (dC (.int 1)) dSetL)) sNext)
  (sSeq (sIf (dTest (dOp dGt (dOp dIx (dVar 0) (dC (.int 1))) (dC (.int 0)))) (sSeq (sAsg (dOp dMod (dOp dIx (dVar 0) (dC (.int 1))) (dVar 1)) (gN 2))
  (sSeq (sAsg (dOp dFdiv (dOp dIx (dVar 0) (dC (.int 1))) (dVar 1)) (gS (dVar 0) (dC (.int 1)) dSetL))
  (sRet (dVar 2)))) sNext)
  (sSeq (sAsg (dOp dMod (dOp dAdd (dOp dMul (dOp dIx (dVar 0) (dC (.int 0))) (dC (.int 48271))) (dC (.int 11))) (dC (.int 2147483647))) (gS (dVar 0) (dC (.int 0)) dSetL))
  (sRet (dOp dMod (dOp dFdiv (dOp dIx (dVar 0) (dC (.int 0))) (dC (.int 64))) (dVar 1))))))
abbrev N__law_off : List Str := ["_law_d", "_law_most", "_law_found"]
def b__law_dice : DSt :=
  (sSeq (sAsg (dVar 1) (gN 2))
  (sSeq (sFor (iSq (dVar 0)) (gN 3) (sAsg (dOp dMod (dOp dAdd (dOp dMul (dVar 2) (dC (.int 31))) (dCB dAbs (dCons (dVar 3) dNil))) (dC (.int 2147483647))) (gN 2)))
  (sRet (dOp dAdd (dLst (dCons (dVar 2) (dCons (dC (.int 0)) dNil))) (dLc (iSq (dVar 0)) (gN 3) (dTest (dOp dGe (dVar 3) (dOp dPow (dC (.int 10)) (dC (.int 18))))) (dVar 3) [3])))))
abbrev N__law_dice : List Str := ["_law_script", "_law_k", "_law_found", "_law_cell"]
def b__law_alike (k : Nat) : DSt :=
  (sSeq (sIf (dTest (dOp dIsN (dVar 1) (dC .non))) (sRet (dOp dIsN (dVar 0) (dC .non))) sNext)
  (sSeq (sIf (dTest (dCB dIsi (dCons (dVar 1) (dCons (dC (.ty "bool")) dNil)))) (sRet (dAndV (dCB dIsi (dCons (dVar 0) (dCons (dC (.ty "bool")) dNil))) (dOp dEq (dVar 0) (dVar 1)))) sNext)
  (sSeq (sIf (dTest (dCB dIsi (dCons (dVar 1) (dCons (dC (.ty "int")) dNil)))) (sRet (dAndV (dCB dIsi (dCons (dVar 0) (dCons (dC (.ty "int")) dNil))) (dAndV (dNotV (dCB dIsi (dCons (dVar 0) (dCons (dC (.ty "bool")) dNil)))) (dOp dEq (dVar 0) (dVar 1))))) sNext)
  (sSeq (sIf (dTest (dCB dIsi (dCons (dVar 1) (dCons (dC (.ty "str")) dNil)))) (sRet (dAndV (dCB dIsi (dCons (dVar 0) (dCons (dC (.ty "str")) dNil))) (dOp dEq (dVar 0) (dVar 1)))) sNext)
  (sSeq (sIf (dOr (dTest (dOp dNe (dCB dIsi (dCons (dVar 1) (dCons (dC (.ty "tuple")) dNil))) (dCB dIsi (dCons (dVar 0) (dCons (dC (.ty "tuple")) dNil))))) (dTest (dOp dNe (dCB dIsi (dCons (dVar 1) (dCons (dC (.ty "list")) dNil))) (dCB dIsi (dCons (dVar 0) (dCons (dC (.ty "list")) dNil)))))) (sRet (dC (.bl false))) sNext)
  (sSeq (sIf (dTest (dOp dNe (dCB dLen (dCons (dVar 0) dNil)) (dCB dLen (dCons (dVar 1) dNil)))) (sRet (dC (.bl false))) sNext)
  (sRet (dCB dAll (dCons (dLc (iRange1 (dCB dLen (dCons (dVar 1) dNil))) (gN 2) dYes (dCall (sd__law_alike k) (dCons (dOp dIx (dVar 0) (dVar 2)) (dCons (dOp dIx (dVar 1) (dVar 2)) dNil))) [2]) dNil)))))))))
abbrev N__law_alike : List Str := ["_law_found", "_law_due", "_law_k"]
end Cc
namespace Cc
open PySem PySem.Spec PyProof.Rows L2
theorem dEq_int {i j : Int} {G : DH} {R : DK} : dEq (.int i) (.int j) G R = R (.bl (decide (i = j))) G := rfl
theorem dNe_int {i j : Int} {G : DH} {R : DK} : dNe (.int i) (.int j) G R = R (.bl (!decide (i = j))) G := rfl
theorem blD_bl {R : Bool → DH → Prop} {c : Bool} {G : DH} : blD R (.bl c) G = R c G := rfl
local macro_rules | `(tactic| walk_at "rd") => `(tactic| try simp only [sSeq, sIf, sAsg, sRet, sRetN, sDrop, sNext, gN, dTest, dAnd, dOr, dNot, dAndV, dOrV, dNotV, dIf, dOp, dUn, dVar, dC, dCons, dNil, dCB, dTup, dLst, blD_bl, dEq_int, dNe_int, dLt, dLe, dGt, dGe, dMod, dFdiv, dIsN, dNotN, D.isN, dAbs, List.getElem?_cons_zero, List.getElem?_cons_succ, List.set_cons_zero, List.set_cons_succ, decide_eq_true_eq, if_true, if_false, Bool.false_eq_true, ite_true, ite_false])
theorem ix_at {G : DH} {a : Addr} {l : List D} {i : Int} {d : D} {R : DK} (h : G a = some (.lst l)) (e : L2.atI l i = some d) (q : R d G) : dIx (.ref a) (.int i) G R := by
  have e1 : itemOf G (.ref a) (.int i) = some d := by
    unfold itemOf
    dsimp only
    rw [h]
    exact e
  unfold dIx
  rw [e1]
  exact q
theorem atI_0 {α : Type} {x : α} {xs : List α} : L2.atI (x :: xs) 0 = some x := by
  unfold L2.atI L2.ixN
  simp
theorem atI_1 {α : Type} {x y : α} {xs : List α} : L2.atI (x :: y :: xs) 1 = some y := by
  unfold L2.atI L2.ixN
  rw [if_pos (by omega), if_pos (by rw [List.length_cons, List.length_cons]; omega)]
  rfl
theorem seq_cut {t u : DSt} {Dn : DEnds} {δ : DS} {G : DH} (Post : DS → DH → Prop) (h1 : ∀ N : DS → DH → Prop, (∀ δ' G', Post δ' G' → N δ' G') → t { Dn with nx := N } δ G) (h2 : ∀ δ' G', Post δ' G' → u Dn δ' G') : sSeq t u Dn δ G := h1 _ h2
theorem ixN_0 {n : Nat} : L2.ixN (n + 1) 0 = some 0 := by
  unfold L2.ixN
  rw [if_pos (by omega), if_pos (by omega)]
  rfl
theorem ixN_1 {n : Nat} : L2.ixN (n + 1 + 1) 1 = some 1 := by
  unfold L2.ixN
  rw [if_pos (by omega), if_pos (by omega)]
  rfl
theorem pure_off (ds : List D) (G : DH) (R : DK) (EX : DX) (h : sd__law_off ds G R EX) : b__law_off (endsD R EX) (startD N__law_off ds) G := by
  obtain ⟨a, m, l, rfl, hG, ⟨x, y, zs, rfl⟩, m0, m1, q⟩ := h
  show b__law_off (endsD R EX) [some (.ref a), some (.int m), none] G
  unfold b__law_off
  refine seq_cut (fun δ' G' => δ' = [some (.ref a), some (.int m), none] ∧ ∃ (y : Int) (zs : List Int), G' a = some (.lst (.int x :: .int y :: zs.map D.int)) ∧ ∀ c, updD G' a c = updD G a c) (fun N hN => ?_) ?_
  · walk_at "rd"
    refine ix_at hG atI_1 ?_
    walk_at "rd"
    have same : N [some (.ref a), some (.int m), none] G := hN _ _ ⟨rfl, y, zs, hG, fun c => rfl⟩
    by_cases hy : y = 0
    · subst hy
      rw [if_pos rfl]
      simp only [dLen, lenOf, hG]
      walk_at "rd"
      cases zs with
      | nil =>
        rw [if_neg (by simp)]
        exact same
      | cons z zs =>
        rw [if_pos (by simp; omega)]
        simp only [dBM, tyR]
        walk_at "rd"
        simp only [hG]
        refine ⟨trivial, _, 2, .int z, hG, by omega, by omega, by simp [seqIndex?]; omega, rfl, ?_⟩
        simp only [gS, dSetL, setF]
        walk_at "rd"
        simp only [updD_same]
        refine ⟨1, ixN_1, ?_⟩
        rw [updD_updD]
        exact hN _ _ ⟨rfl, z, zs, updD_same, fun c => updD_updD⟩
    · rw [if_neg hy]
      exact same
  · rintro δ' G' ⟨rfl, y, zs, hA, hU⟩
    walk_at "rd"
    refine ix_at hA atI_1 ?_
    walk_at "rd"
    by_cases hy : 0 < y
    · rw [if_pos hy]
      refine ix_at hA atI_1 ⟨m0, ?_⟩
      refine ix_at hA atI_1 ?_
      walk_at "rd"
      refine ⟨⟨m0, m1⟩, ?_⟩
      simp only [gS, dSetL, setF]
      walk_at "rd"
      simp only [hA]
      refine ⟨1, ixN_1, ?_⟩
      rw [hU]
      exact q _ _ (Int.emod_nonneg _ (by omega)) (Int.emod_lt_of_pos _ m0) ⟨_, _, zs, rfl⟩
    · rw [if_neg hy]
      refine ix_at hA atI_0 ?_
      simp only [dMul, dAdd]
      refine ⟨Or.inr (by omega), by omega, ?_⟩
      simp only [gS, dSetL, setF]
      walk_at "rd"
      simp only [hA]
      refine ⟨0, ixN_0, ?_⟩
      refine ix_at updD_same atI_0 ?_
      walk_at "rd"
      refine ⟨by unfold CDiv; omega, m0, ?_⟩
      rw [hU]
      exact q _ _ (Int.emod_nonneg _ (by omega)) (Int.emod_lt_of_pos _ m0) ⟨_, _, zs, rfl⟩
theorem Sub.updD {G G' : DH} (s : Sub G G') {a : Addr} {c : C} : Sub (updD G a c) (updD G' a c) := fun b u e => by
  by_cases hb : b = a
  · subst hb
    rw [updD_same] at e ⊢
    exact e
  · rw [updD_ne hb] at e ⊢
    exact s b u e
theorem Sub.up {G G' : DH} (s : Sub G G') {a : Addr} {c : C} (h : G a = none) (h' : G' a = some c) : Sub (Cc.updD G a c) G' := fun b u e => by
  by_cases hb : b = a
  · subst hb
    rw [updD_same] at e
    rw [h']
    exact e
  · rw [updD_ne hb] at e
    exact s b u e
theorem none_up {G : DH} {a b : Addr} {c : C} (h : updD G a c b = none) : G b = none ∧ b ≠ a := by
  by_cases hb : b = a
  · subst hb
    rw [updD_same] at h
    cases h
  · rw [updD_ne hb] at h
    exact ⟨h, hb⟩
theorem seqI_new {G : DH} {x : D} {ns : List Int} {p : Addr} {c : C} (h : seqI G x ns) (n : G p = none) : seqI (updD G p c) x ns := by
  rcases h with h | ⟨a, h, e⟩
  · exact .inl h
  · exact .inr ⟨a, h, Sub.new n _ _ e⟩
theorem iSq_I {i : Nat} {δ : DS} {G : DH} {RR : List D → (DH → Prop) → DH → Prop} {EX : DX} {x : D} {ns : List Int} (hx : δ[i]? = some (some x)) (h : seqI G x ns) (q : ∀ ok : DH → Prop, (∀ G', seqI G' x ns → ok G') → RR (ns.map D.int) ok G) : iSq (dVar i) δ G RR EX := by
  unfold iSq dVar
  rw [hx]
  rcases h with (rfl | rfl) | ⟨a, rfl, e⟩
  · exact q _ fun G' _ => trivial
  · exact q _ fun G' _ => trivial
  · refine ⟨_, e, q _ fun G' h' => ?_⟩
    rcases h' with (h' | h') | ⟨b, h', e'⟩
    · cases h'
    · cases h'
    · cases h'
      exact e'
theorem pure_dice (ds : List D) (G : DH) (R : DK) (EX : DX) (h : sd__law_dice ds G R EX) : b__law_dice (endsD (frg R) EX) (startD N__law_dice ds) G := by
  obtain ⟨x, k, ns, rfl, hx, hn, q⟩ := h
  show b__law_dice (endsD (frg R) EX) [some x, some (.int k), none, none] G
  unfold b__law_dice
  refine seq_cut (fun δ' G' => δ' = [some x, some (.int k), some (.int k), none] ∧ G = G') (fun N hN => ?_) ?_
  · walk_at "rd"
    exact hN _ _ ⟨rfl, rfl⟩
  rintro _ _ ⟨rfl, rfl⟩
  refine seq_cut (fun δ' G' => (∃ f o, δ' = [some x, some (.int k), some (.int f), o]) ∧ G = G') (fun N hN => ?_) ?_
  · unfold sFor
    refine iSq_I rfl hx fun ok hok => goFor_by (fun xs δ' G' => (∃ f o, δ' = [some x, some (.int k), some (.int f), o]) ∧ G = G' ∧ ∃ ms : List Int, xs = ms.map D.int) (fun xs δ G' h => hok _ (h.2.1 ▸ hx)) (fun δ G' h => hN _ _ ⟨h.1, h.2.1⟩) (fun y ys δ G' M h hM => ?_) _ _ _ ⟨⟨k, none, rfl⟩, rfl, ns, rfl⟩
    obtain ⟨⟨f, o, rfl⟩, rfl, ms, e⟩ := h
    cases ms with
    | nil => cases e
    | cons m ms =>
      cases e
      walk_at "rd"
      simp only [dMul, dAdd]
      walk_at "rd"
      exact ⟨Or.inr (by omega), by omega, hM _ _ ⟨⟨_, _, rfl⟩, rfl, ms, rfl⟩⟩
  rintro _ _ ⟨⟨f, o, rfl⟩, rfl⟩
  walk_at "rd"
  refine ⟨by simp [sizeLine_eq], fun p hp => ?_⟩
  unfold dLc
  refine iSq_I rfl (seqI_new hx hp) fun ok hok => fun p2 hp2 => ?_
  obtain ⟨n2, ne2⟩ := none_up hp2
  refine goLc_map (fun y => match y with
    | .int c => if (10 : Int) ^ 18 ≤ c then some (.int c) else none
    | _ => none) _ (by rw [List.length_map, sizeLine_eq]; omega) (fun acc => hok _ (seqI_new (seqI_new hx hp) hp2)) ?_ fun y hy acc N hacc hN => ?_
  · have e : ∀ ns : List Int, ((ns.map D.int).filterMap fun y => match y with
      | .int c => if (10 : Int) ^ 18 ≤ c then some (D.int c) else none
      | _ => none) = (ns.filter fun c => decide ((10 : Int) ^ 18 ≤ c)).map D.int := fun ns => by
      induction ns with
      | nil => rfl
      | cons n ns ih =>
        rw [List.map_cons, List.filterMap_cons, List.filter_cons, ih]
        by_cases h : (10 : Int) ^ 18 ≤ n
        · simp only [h, if_true, decide_true, List.map_cons]
        · simp only [h, if_false, decide_false, Bool.false_eq_true]
    rw [e]
    unfold dAdd
    refine ⟨[.int f, .int 0], (ns.filter fun c => decide ((10 : Int) ^ 18 ≤ c)).map D.int, by rw [updD_ne (Ne.symm ne2)]; exact updD_same, updD_same, ?_, fun n hn => ?_⟩
    · have := List.length_filter_le (fun c => decide ((10 : Int) ^ 18 ≤ c)) ns
      rw [List.length_map, sizeLine_eq]
      simp only [List.length_cons, List.length_nil]
      omega
    · obtain ⟨h1, _⟩ := none_up hn
      obtain ⟨h2, _⟩ := none_up h1
      exact ⟨_, ((Sub.new hp).trans (Sub.new hp2)).updD, q n _ h2 ⟨f, 0, _, rfl⟩⟩
  · obtain ⟨m, hm, rfl⟩ := List.mem_map.mp hy
    simp only [wipeD]
    walk_at "rd"
    simp only [dPow, dGe]
    refine ⟨by unfold CPow; decide, ?_⟩
    have e18 : (18 : Int).toNat = 18 := rfl
    rw [e18] at *
    by_cases h : (10 : Int) ^ 18 ≤ m
    · rw [if_pos h]
      simp only [h, if_true] at hN
      exact ⟨acc, updD_same, hacc, by rw [updD_updD]; exact hN⟩
    · rw [if_neg h]
      simp only [h, if_false] at hN
      exact hN
end Cc
namespace Cc
open PySem PySem.Spec PyProof.Rows L2
local macro_rules | `(tactic| walk_at "rd") => `(tactic| try simp only [sSeq, sIf, sAsg, sRet, sRetN, sDrop, sNext, gN, dTest, dAnd, dOr, dNot, dAndV, dOrV, dNotV, dIf, dOp, dUn, dVar, dC, dCons, dNil, dCB, dTup, dLst, blD_bl, dEq_int, dNe_int, dLt, dLe, dGt, dGe, dMod, dFdiv, dIsN, dNotN, D.isN, dAbs, List.getElem?_cons_zero, List.getElem?_cons_succ, List.set_cons_zero, List.set_cons_succ, decide_eq_true_eq, if_true, if_false, Bool.false_eq_true, ite_true, ite_false])
theorem isi_ty {G : DH} {x : D} {t T : String} {b : Bool} {R : DK} (h : tyD G x = some t) (e : kitB t T = some b) (q : R (.bl b) G) : dIsi [x, .ty T] G R := by
  have z : (match tyD G x with
    | some t => (match kitB t T with
      | some b => R (.bl b) G
      | none => False)
    | none => False) := by
    rw [h]
    dsimp only
    rw [e]
    exact q
  exact z
theorem tyD_tl {G : DH} {x : D} {l : List D} (e : x.tl = some l) : tyD G x = some "tuple" := by
  cases x <;> first | rfl | cases e
theorem seq_tl {G : DH} {x : D} {l : List D} (e : x.tl = some l) : seqOf G x = some l := by
  cases x <;> first | exact e | cases e
theorem isN_tl {x : D} {l : List D} (e : x.tl = some l) : x.isN = false := by
  cases x <;> first | rfl | cases e
theorem len_seq {G : DH} {x : D} {l : List D} (e : seqOf G x = some l) : lenOf G x = some l.length := by
  unfold seqOf at e
  split at e
  · rename_i a
    unfold lenOf
    dsimp only
    split at e
    · rename_i l' ea
      cases e
      rw [ea]
    · cases e
  · cases e
    rfl
  · rename_i h1 h2
    have e2 : seqOf G x = some l := seq_tl e
    unfold lenOf
    split
    · cases e
    · exact absurd rfl (h1 _)
    · rw [e2]
      rfl
theorem item_seq {G : DH} {x : D} {l : List D} {i : Int} (e : seqOf G x = some l) : itemOf G x (.int i) = L2.atI l i := by
  unfold seqOf at e
  split at e
  · rename_i a
    unfold itemOf
    dsimp only
    split at e
    · rename_i l' ea
      cases e
      rw [ea]
    · cases e
  · cases e
    rfl
  · rename_i h1 h2
    cases x <;> first | (cases e; rfl) | cases e
theorem ix_seqd {G : DH} {x : D} {l : List D} {i : Int} {d : D} {R : DK} (e : seqOf G x = some l) (h : L2.atI l i = some d) (q : R d G) : dIx x (.int i) G R := by
  have e1 : itemOf G x (.int i) = some d := (item_seq e).trans h
  unfold dIx
  rw [e1]
  exact q
theorem atI_nat {α : Type} {l : List α} {i : Nat} {x : α} (h : l[i]? = some x) : L2.atI l (i : Int) = some x := by
  have hl := (List.getElem?_eq_some_iff.mp h).1
  unfold L2.atI L2.ixN
  rw [if_pos (by omega), if_pos (by omega)]
  exact h
mutual
theorem Rdd.sub {G G' : DH} (s : Sub G G') : ∀ {d : D} {t : PyData}, Rdd G d t → Rdd G' d t
  | _, _, .non => .non
  | _, _, .bl b => .bl b
  | _, _, .int i => .int i
  | _, _, .str x => .str x
  | _, _, .tup e r => .tup e (RddL.sub s r)
  | _, _, .rol r => .rol (RddL.sub s r)
  | _, _, .lst e r => .lst (s _ _ e) (RddL.sub s r)
theorem RddL.sub {G G' : DH} (s : Sub G G') : ∀ {d : List D} {t : List PyData}, RddL G d t → RddL G' d t
  | _, _, .nil => .nil
  | _, _, .cons h r => .cons (Rdd.sub s h) (RddL.sub s r)
end
theorem RddL.get {G : DH} : ∀ {l : List D} {ts : List PyData} {i : Nat}, RddL G l ts → i < ts.length → ∃ d t, l[i]? = some d ∧ ts[i]? = some t ∧ Rdd G d t
  | _, _, _, .nil, h => by simp at h
  | _, _, 0, .cons h _, _ => ⟨_, _, rfl, rfl, h⟩
  | _, _, i + 1, .cons _ r, h => by
    obtain ⟨d, t, a, b, c⟩ := RddL.get (i := i) r (by simpa using h)
    exact ⟨d, t, by simpa using a, by simpa using b, c⟩
theorem depth_at : ∀ {ts : List PyData} {i : Nat} {t : PyData}, ts[i]? = some t → t.depth ≤ PyData.depthAll ts
  | [], _, _, e => by simp at e
  | x :: xs, 0, t, e => by
    simp at e
    subst e
    rw [PyData.depthAll]
    omega
  | x :: xs, i + 1, t, e => by
    have := depth_at (ts := xs) (i := i) (by simpa using e)
    rw [PyData.depthAll]
    omega
theorem lean_at : ∀ {ts : List PyData} {i : Nat} {t : PyData}, ts[i]? = some t → leanAll ts = true → lean t = true
  | [], _, _, e, _ => by simp at e
  | x :: xs, 0, t, e, h => by
    simp at e
    subst e
    rw [leanAll] at h
    exact (Bool.and_eq_true_iff.mp h).1
  | x :: xs, i + 1, t, e, h => by
    rw [leanAll] at h
    exact lean_at (ts := xs) (i := i) (by simpa using e) (Bool.and_eq_true_iff.mp h).2
theorem Rdd.ty {G : DH} {x : D} {t : PyData} : Rdd G x t → tyD G x = some (match t with
  | .none => "NoneType"
  | .bool _ => "bool"
  | .int _ => "int"
  | .str _ => "str"
  | .tuple _ => "tuple"
  | .list _ => "list"
  | .dict _ => "dict") := fun h => by
  cases h with
  | tup e r => exact tyD_tl e
  | lst e r =>
    unfold tyD
    dsimp only
    rw [e]
  | _ => rfl
theorem Rdd.nonN {G : DH} {x : D} {t : PyData} (h : Rdd G x t) (n : t ≠ .none) : x.isN = false := by
  cases h with
  | non => exact absurd rfl n
  | tup e r => exact isN_tl e
  | _ => rfl
theorem rangeD_len {lo : Int} {n : Nat} : (rangeD lo n).length = n := by unfold rangeD; rw [List.length_map, List.length_range]
theorem pure_seq {G : DH} {k : Nat} {x y : D} {lx ly : List D} {ts : List PyData} {R : DK} {EX : DX} (sx : seqOf G x = some lx) (sy : seqOf G y = some ly) (rx : RddL G lx ts) (ry : RddL G ly ts) (hd : PyData.depthAll ts + 1 ≤ k) (hl : ts.length ≤ 100000) (hla : leanAll ts = true) (q : R (.bl true) G) (δ : DS) (h0 : δ[0]? = some (some x)) (h1 : δ[1]? = some (some y)) (h3 : δ.length = 3) (up : ∀ G', Sub G G' → seqOf G' x = some lx ∧ seqOf G' y = some ly) :
    sRet (dCB dAll (dCons (dLc (iRange1 (dCB dLen (dCons (dVar 1) dNil))) (gN 2) dYes (dCall (sd__law_alike k) (dCons (dOp dIx (dVar 0) (dVar 2)) (dCons (dOp dIx (dVar 1) (dVar 2)) dNil))) [2]) dNil)) (endsD (frg R) EX) δ G := by
  have ex : lx.length = ts.length := rx.len
  have ey : ly.length = ts.length := ry.len
  obtain ⟨o0, o1, o2, rfl⟩ : ∃ o0 o1 o2, δ = [o0, o1, o2] := by
    match δ, h3 with
    | [a, b, c], _ => exact ⟨a, b, c, rfl⟩
  cases h0
  cases h1
  walk_at "rd"
  simp only [dLc, iRange1]
  walk_at "rd"
  simp only [dLen, len_seq sy]
  refine ⟨⟨by omega, by omega⟩, fun p hp => ?_⟩
  have eN : ((ly.length : Nat) : Int).toNat = ts.length := by omega
  rw [eN]
  refine goLc_map (fun _ => some (.bl true)) _ (by rw [rangeD_len, sizeLine_eq]; omega) (fun _ => trivial) ?_ fun z hz acc N hacc hN => ?_
  · have e : (rangeD 0 ts.length).filterMap (fun _ => some (D.bl true)) = (List.replicate ts.length true).map D.bl := by
      rw [List.map_replicate]
      unfold rangeD
      rw [List.filterMap_map]
      have : ∀ l : List Nat, l.filterMap ((fun _ => some (D.bl true)) ∘ fun i : Nat => D.int (0 + (i : Nat))) = List.replicate l.length (D.bl true) := fun l => by
        induction l with
        | nil => rfl
        | cons a l ih =>
          rw [List.filterMap_cons, ih]
          rfl
      rw [this, List.length_range]
    rw [e]
    refine ⟨_, updD_same, ?_⟩
    have e2 : (List.replicate ts.length true).all id = true := by
      rw [List.all_eq_true]
      intro b hb
      rw [(List.mem_replicate.mp hb).2]
      rfl
    rw [e2]
    exact ⟨G, Sub.new hp, q⟩
  · unfold rangeD at hz
    obtain ⟨i, hi, rfl⟩ := List.mem_map.mp hz
    have hi := List.mem_range.mp hi
    obtain ⟨dx, t, a1, a2, a3⟩ := rx.get hi
    obtain ⟨dy, t', b1, b2, b3⟩ := ry.get hi
    rw [a2] at b2
    cases b2
    have sG : Sub G (updD G p (.lst acc)) := Sub.new hp
    obtain ⟨u1, u2⟩ := up _ sG
    simp only [wipeD, dYes, dCall]
    walk_at "rd"
    rw [Int.zero_add]
    refine ix_seqd u1 (atI_nat a1) ?_
    refine ix_seqd u2 (atI_nat b1) ?_
    have dt := depth_at a2
    obtain ⟨j, rfl⟩ : ∃ j, k = j + 1 := ⟨k - 1, by omega⟩
    exact ⟨dx, dy, t, rfl, a3.sub sG, b3.sub sG, by omega, lean_at a2 hla, acc, updD_same, hacc, by rw [updD_updD]; exact hN⟩
theorem if_skip {c : DT} {A u : DSt} {Dn : DEnds} {δ : DS} {G : DH} (h : ∀ R' : Bool → DH → Prop, R' false G → c δ G R' Dn.ex) (h2 : u Dn δ G) : sSeq (sIf c A sNext) u Dn δ G := h _ h2
theorem if_take {c : DT} {A B u : DSt} {Dn : DEnds} {δ : DS} {G : DH} (h : ∀ R' : Bool → DH → Prop, R' true G → c δ G R' Dn.ex) (h2 : A { Dn with nx := u Dn } δ G) : sSeq (sIf c A B) u Dn δ G := h _ h2
theorem tst_isi {i : Nat} {x : D} {δ : DS} {G : DH} {t T : String} {b : Bool} {R : Bool → DH → Prop} {EX : DX} (hx : δ[i]? = some (some x)) (h : tyD G x = some t) (e : kitB t T = some b) (q : R b G) : dTest (dCB dIsi (dCons (dVar i) (dCons (dC (.ty T)) dNil))) δ G R EX := by
  simp only [dTest, dCB, dCons, dVar, hx, dC, dNil]
  exact isi_ty h e q
theorem val_isi {i : Nat} {x : D} {δ : DS} {G : DH} {t T : String} {b : Bool} {R : DK} {EX : DX} (hx : δ[i]? = some (some x)) (h : tyD G x = some t) (e : kitB t T = some b) (q : R (.bl b) G) : dCB dIsi (dCons (dVar i) (dCons (dC (.ty T)) dNil)) δ G R EX := by
  simp only [dCB, dCons, dVar, hx, dC, dNil]
  exact isi_ty h e q
theorem dNe_bl {b c : Bool} {G : DH} {R : DK} : dNe (.bl b) (.bl c) G R = R (.bl (!decide (b = c))) G := rfl
theorem dEq_bl {b c : Bool} {G : DH} {R : DK} : dEq (.bl b) (.bl c) G R = R (.bl (decide (b = c))) G := rfl
theorem dEq_str {b c : Str} {G : DH} {R : DK} : dEq (.str b) (.str c) G R = R (.bl (decide (b = c))) G := rfl
theorem ne_isi {x y : D} {G : DH} {t T : String} {b : Bool} {R : Bool → DH → Prop} {EX : DX} {o : Option D} (hx : tyD G x = some t) (hy : tyD G y = some t) (e : kitB t T = some b) (q : R false G) : dTest (dOp dNe (dCB dIsi (dCons (dVar 1) (dCons (dC (.ty T)) dNil))) (dCB dIsi (dCons (dVar 0) (dCons (dC (.ty T)) dNil)))) [some x, some y, o] G R EX := by
  simp only [dTest, dOp]
  refine val_isi rfl hy e ?_
  refine val_isi rfl hx e ?_
  rw [dNe_bl, blD_bl, decide_eq_true rfl]
  exact q
theorem ne_len {x y : D} {G : DH} {lx ly : List D} {R : Bool → DH → Prop} {EX : DX} {o : Option D} (hx : seqOf G x = some lx) (hy : seqOf G y = some ly) (e : lx.length = ly.length) (q : R false G) : dTest (dOp dNe (dCB dLen (dCons (dVar 0) dNil)) (dCB dLen (dCons (dVar 1) dNil))) [some x, some y, o] G R EX := by
  simp only [dTest, dOp, dCB, dCons, dNil, dVar, List.getElem?_cons_zero, List.getElem?_cons_succ, dLen, len_seq hx, len_seq hy, dNe_int, blD_bl, e, decide_true, Bool.not_true]
  exact q
theorem pure_alike (k : Nat) (ds : List D) (G : DH) (R : DK) (EX : DX) (h : sd__law_alike (k + 1) ds G R EX) : b__law_alike k (endsD (frg R) EX) (startD N__law_alike ds) G := by
  obtain ⟨x, y, t, rfl, rx, ry, hd, hl, q⟩ := h
  show b__law_alike k (endsD (frg R) EX) [some x, some y, none] G
  have tx := rx.ty
  have ty := ry.ty
  have q' : frg R (.bl true) G := frg_of q
  have skN : t ≠ .none → ∀ {u A : DSt}, u (endsD (frg R) EX) [some x, some y, none] G → sSeq (sIf (dTest (dOp dIsN (dVar 1) (dC .non))) A sNext) u (endsD (frg R) EX) [some x, some y, none] G := fun n u A h => if_skip (fun R' h' => by
    simp only [dTest, dOp, dVar, List.getElem?_cons_zero, List.getElem?_cons_succ, dC, dIsN, ry.nonN n, blD_bl]
    exact h') h
  have sk : ∀ {T tt : String}, tyD G y = some tt → kitB tt T = some false → ∀ {u A : DSt}, u (endsD (frg R) EX) [some x, some y, none] G → sSeq (sIf (dTest (dCB dIsi (dCons (dVar 1) (dCons (dC (.ty T)) dNil)))) A sNext) u (endsD (frg R) EX) [some x, some y, none] G := fun h e u A h2 => if_skip (fun R' h' => tst_isi rfl h e h') h2
  have tk : ∀ {T tt : String}, tyD G y = some tt → kitB tt T = some true → ∀ {u A : DSt}, A { endsD (frg R) EX with nx := u (endsD (frg R) EX) } [some x, some y, none] G → sSeq (sIf (dTest (dCB dIsi (dCons (dVar 1) (dCons (dC (.ty T)) dNil)))) A sNext) u (endsD (frg R) EX) [some x, some y, none] G := fun h e u A h2 => if_take (fun R' h' => tst_isi rfl h e h') h2
  unfold b__law_alike
  cases t with
  | none =>
    cases rx
    cases ry
    refine if_take (fun R' h' => h') ?_
    exact q'
  | bool b =>
    dsimp only at tx ty
    refine skN (by intro h; cases h) (tk ty (by decide +kernel) ?_)
    unfold sRet dAndV
    refine val_isi rfl tx (b := true) (by decide +kernel) ?_
    rw [blD_bl, if_pos rfl]
    cases rx
    cases ry
    simp only [dOp, dVar, List.getElem?_cons_zero, List.getElem?_cons_succ, dEq_bl, decide_true]
    exact q'
  | int i =>
    dsimp only at tx ty
    refine skN (by intro h; cases h) (sk ty (by decide +kernel) (tk ty (by decide +kernel) ?_))
    unfold sRet dAndV
    refine val_isi rfl tx (b := true) (by decide +kernel) ?_
    rw [blD_bl, if_pos rfl]
    unfold dNotV
    refine val_isi rfl tx (b := false) (by decide +kernel) ?_
    rw [blD_bl, blD_bl, Bool.not_false, if_pos rfl]
    cases rx
    cases ry
    simp only [dOp, dVar, List.getElem?_cons_zero, List.getElem?_cons_succ, dEq_int, decide_true]
    exact q'
  | str z =>
    dsimp only at tx ty
    refine skN (by intro h; cases h) (sk ty (by decide +kernel) (sk ty (by decide +kernel) (tk ty (by decide +kernel) ?_)))
    unfold sRet dAndV
    refine val_isi rfl tx (b := true) (by decide +kernel) ?_
    rw [blD_bl, if_pos rfl]
    cases rx
    cases ry
    simp only [dOp, dVar, List.getElem?_cons_zero, List.getElem?_cons_succ, dEq_str, decide_true]
    exact q'
  | tuple ts =>
    dsimp only at tx ty
    cases rx with
    | tup ex rx =>
      cases ry with
      | tup ey ry =>
        refine skN (by intro h; cases h) (sk ty (by decide +kernel) (sk ty (by decide +kernel) (sk ty (by decide +kernel) (if_skip (fun R' h' => ?_) (if_skip (fun R' h' => ?_) ?_)))))
        · unfold dOr
          refine ne_isi tx ty (b := true) (by decide +kernel) ?_
          rw [if_neg Bool.false_ne_true]
          exact ne_isi tx ty (b := false) (by decide +kernel) h'
        · exact ne_len (seq_tl ex) (seq_tl ey) (rx.len.trans ry.len.symm) h'
        · exact pure_seq (seq_tl ex) (seq_tl ey) rx ry (by rw [PyData.depth] at hd; exact hd) (by rw [lean] at hl; exact of_decide_eq_true (Bool.and_eq_true_iff.mp hl).1) (by rw [lean] at hl; exact (Bool.and_eq_true_iff.mp hl).2) q [some x, some y, none] rfl rfl rfl (fun G' s => ⟨seq_tl ex, seq_tl ey⟩)
  | list ts =>
    dsimp only at tx ty
    have hs : ∀ {z : D}, Rdd G z (.list ts) → ∃ l, seqOf G z = some l ∧ RddL G l ts ∧ ∀ G', Sub G G' → seqOf G' z = some l := fun {z} h => by
      cases h with
      | rol r => exact ⟨_, rfl, r, fun _ _ => rfl⟩
      | lst e r =>
        refine ⟨_, ?_, r, fun G' s => ?_⟩
        · unfold seqOf
          dsimp only
          rw [e]
        · unfold seqOf
          dsimp only
          rw [s _ _ e]
    obtain ⟨lx, ex, rx', ux⟩ := hs rx
    obtain ⟨ly, ey, ry', uy⟩ := hs ry
    refine skN (by intro h; cases h) (sk ty (by decide +kernel) (sk ty (by decide +kernel) (sk ty (by decide +kernel) (if_skip (fun R' h' => ?_) (if_skip (fun R' h' => ?_) ?_)))))
    · unfold dOr
      refine ne_isi tx ty (b := false) (by decide +kernel) ?_
      rw [if_neg Bool.false_ne_true]
      exact ne_isi tx ty (b := true) (by decide +kernel) h'
    · exact ne_len ex ey (rx'.len.trans ry'.len.symm) h'
    · exact pure_seq ex ey rx' ry' (by rw [PyData.depth] at hd; exact hd) (by rw [lean] at hl; exact of_decide_eq_true (Bool.and_eq_true_iff.mp hl).1) (by rw [lean] at hl; exact (Bool.and_eq_true_iff.mp hl).2) q [some x, some y, none] rfl rfl rfl (fun G' s => ⟨ux G' s, uy G' s⟩)
  | dict _ => cases rx
end Cc
/-! ### small facts of readings -/
namespace Cc
open PySem PySem.Spec PyProof.Rows L2
open PySem.W (EachIs AllAlike Sortable dataLe)
theorem sub_put {G G' : DH} {a : Addr} {c : C} (s : Sub G G') (h : G a = none) : Sub G (Cc.updD G' a c) := fun b u e => by
  have ne : b ≠ a := fun z => by subst z; rw [h] at e; cases e
  rw [updD_ne ne]
  exact s b u e
theorem Sub.fresh {G G' : DH} {a : Addr} (s : Sub G G') (h : G' a = none) : G a = none := by
  cases e : G a with
  | none => rfl
  | some c =>
    rw [s _ _ e] at h
    cases h
theorem keep_upd {G : DH} {a b : Addr} {c u : C} (h : G b = some u) (n : G a = none) : updD G a c b = some u := Sub.new n _ _ h
theorem iSq_cell {i : Nat} {δ : DS} {G : DH} {RR : List D → (DH → Prop) → DH → Prop} {EX : DX} {a : Addr} {l : List D} (hx : δ[i]? = some (some (.ref a))) (e : G a = some (.lst l)) (q : RR l (fun G => G a = some (.lst l)) G) : iSq (dVar i) δ G RR EX := by
  unfold iSq dVar
  rw [hx]
  exact ⟨l, e, q⟩
theorem each_app {α β : Type} {P : α → β → Prop} : ∀ {as as' : List α} {bs bs' : List β}, EachIs P as bs → EachIs P as' bs' → EachIs P (as ++ as') (bs ++ bs')
  | _, _, _, _, .nil, h => h
  | _, _, _, _, .cons h t, h' => .cons h (each_app t h')
theorem each_nil {α β : Type} {P : α → β → Prop} {bs : List β} (h : EachIs P [] bs) : bs = [] := by cases h; rfl
theorem each_cons {α β : Type} {P : α → β → Prop} {a : α} {as : List α} {bs : List β} (h : EachIs P (a :: as) bs) : ∃ b bs', bs = b :: bs' ∧ P a b ∧ EachIs P as bs' := by
  cases h with
  | cons h t => exact ⟨_, _, rfl, h, t⟩
theorem each_mem {α β : Type} {P : α → β → Prop} : ∀ {as : List α} {bs : List β}, EachIs P as bs → ∀ a ∈ as, ∃ b ∈ bs, P a b
  | _, _, .nil, _, h => by cases h
  | _, _, .cons h t, a, hm => by
    rcases List.mem_cons.mp hm with rfl | hm
    · exact ⟨_, List.mem_cons_self, h⟩
    · obtain ⟨b, h1, h2⟩ := each_mem t a hm
      exact ⟨b, List.mem_cons_of_mem _ h1, h2⟩
theorem each_map_l {α β γ : Type} {P : γ → β → Prop} {f : α → γ} : ∀ {as : List α} {bs : List β}, EachIs (fun a b => P (f a) b) as bs → EachIs P (as.map f) bs
  | _, _, .nil => .nil
  | _, _, .cons h t => .cons h (each_map_l t)
theorem lay_map {α : Type} {f : α → PyData} : ∀ {l : List α}, (∀ x ∈ l, (f x).canLay0 = true) → PyData.canLayAll0 (l.map f) = true
  | [], _ => by simp [PyData.canLayAll0]
  | x :: xs, h => by
    rw [List.map_cons, PyData.canLayAll0, h x List.mem_cons_self, lay_map fun y hy => h y (List.mem_cons_of_mem _ hy)]
    rfl
theorem dep_map {α : Type} {f : α → PyData} {n : Nat} : ∀ {l : List α}, (∀ x ∈ l, (f x).depth ≤ n) → PyData.depthAll (l.map f) ≤ n
  | [], _ => by simp [PyData.depthAll]
  | x :: xs, h => by
    have h1 := h x List.mem_cons_self
    have h2 := dep_map (f := f) (l := xs) fun y hy => h y (List.mem_cons_of_mem _ hy)
    rw [List.map_cons, PyData.depthAll]
    omega
theorem lean_map {α : Type} {f : α → PyData} : ∀ {l : List α}, (∀ x ∈ l, lean (f x) = true) → leanAll (l.map f) = true
  | [], _ => by simp [leanAll]
  | x :: xs, h => by
    rw [List.map_cons, leanAll, h x List.mem_cons_self, lean_map fun y hy => h y (List.mem_cons_of_mem _ hy)]
    rfl
theorem rdd_map {α : Type} {G : DH} {f : α → D} {g : α → PyData} : ∀ {l : List α}, (∀ x ∈ l, Rdd G (f x) (g x)) → RddL G (l.map f) (l.map g)
  | [], _ => .nil
  | x :: xs, h => .cons (h x List.mem_cons_self) (rdd_map fun y hy => h y (List.mem_cons_of_mem _ hy))
theorem rdd_each {β : Type} {G : DH} {P : D → β → Prop} {g : β → PyData} (h : ∀ a b, P a b → Rdd G a (g b)) : ∀ {as : List D} {bs : List β}, EachIs P as bs → RddL G as (bs.map g)
  | _, _, .nil => .nil
  | _, _, .cons p t => .cons (h _ _ p) (rdd_each h t)
theorem shaped_by {t : PyData} (h : t.canLay0 = true) (d : t.depth ≤ 64) : SeqAt.shaped t = true := by
  unfold SeqAt.shaped
  rw [h, decide_eq_true d]
  rfl
theorem rangeD_zero {lo : Int} : rangeD lo 0 = [] := rfl
theorem rangeD_succ {lo : Int} {n : Nat} : rangeD lo (n + 1) = .int lo :: rangeD (lo + 1) n := by
  unfold rangeD
  rw [List.range_succ_eq_map, List.map_cons, List.map_map]
  congr 1
  · simp
  · refine List.map_congr_left fun i _ => ?_
    show D.int (lo + ((i + 1 : Nat) : Int)) = D.int (lo + 1 + (i : Int))
    congr 1
    omega
theorem sortD_map {α : Type} {f : α → D} {g : α → PyData} (l : List α) : sortD (l.map f) (l.map g) = (l.mergeSort (dataLe false g)).map f := by
  unfold sortD
  have e : (l.map f).zip (l.map g) = l.map fun x => (f x, g x) := by
    rw [List.zip_map']
  rw [e, ← List.map_mergeSort (r := dataLe false g) (s := dataLe false Prod.snd) (f := fun x => (f x, g x)) (l := l) (fun a _ b _ => rfl), List.map_map]
  rfl
theorem lst_of {G : DH} {a : Addr} {l : List D} (h : G a = some (.lst l)) : lstOf G (.ref a) = some l := by
  unfold lstOf
  dsimp only
  rw [h]
/-- sorted(a list of data) -/
theorem sorted_map {α : Type} {f : α → D} {g : α → PyData} {l : List α} {G : DH} {a : Addr} {R : DK} (h : G a = some (.lst (l.map f))) (hr : ∀ x ∈ l, Rdd G (f x) (g x)) (hal : ∀ x y, PySem.W.alike (g x) (g y) = true) (hk : Sortable (l.map g)) (hd : ∀ x ∈ l, (g x).depth ≤ 40) (hl : l.length ≤ sizeLine)
    (q : ∀ p, G p = none → R (.ref p) (updD G p (.lst ((l.mergeSort (dataLe false g)).map f)))) : dSorted [.ref a] G R :=
  ⟨l.map f, l.map g, lst_of h, rdd_map hr, AllAlike.of fun x y => hal x y, hk, fun t ht => by
    obtain ⟨x, hx, rfl⟩ := List.mem_map.mp ht
    exact hd x hx, by rw [List.length_map]; exact hl, fun p hp => by rw [sortD_map]; exact q p hp⟩
theorem atI_mem {α : Type} {l : List α} {i : Int} (h0 : 0 ≤ i) (h1 : i < l.length) : ∃ d ∈ l, L2.atI l i = some d := by
  have hi : i.toNat < l.length := by omega
  refine ⟨l[i.toNat], List.getElem_mem hi, ?_⟩
  unfold L2.atI L2.ixN
  rw [if_pos h0, if_pos h1]
  exact List.getElem?_eq_getElem hi
end Cc
/-! ### the end: facts of the top, the law's promise -/
namespace Cc
open PySem PySem.Spec PyProof.Rows L2
def sdLaw : SpD := fun ds G R _ => ∃ x ns, ds = [x] ∧ seqI G x ns ∧ ns.length ≤ 63 ∧ ∀ G', R (.bl true) G'
theorem dvl_ints {K : KT} {H : Hp} : ∀ ns : List Int, DvL K H (ns.map V.int) (ns.map D.int)
  | [] => .nil
  | n :: ns => .cons (.int n) (dvl_ints ns)
theorem sdLaw_end {K : PySem.W.Frag} {T : List (Addr × Str)} {cs : List (Addr × Addr)} (hT : ∀ p ∈ T, ∃ q ∈ cs, q.2 = p.1) {H : Hp} {a : Addr} {ns : List Int} (hn : ns.length ≤ 63) (hc : ∀ p ∈ cs, H p.2 = some (.tbl #[])) (hs : SqL K H a (ns.map V.int)) :
    upF (K, T) sdLaw [.ref a] H (fun v _ => v = .bl true) fun _ _ _ => False := by
  have tabs : LamX.Tabs T H := fun p hp => by
    obtain ⟨q, hq, e⟩ := hT p hp
    exact LamX.TabS.nil (by rw [← e]; exact hc q hq)
  have key : ∀ (x : D) (G : DH), Dv (K, T) H (.ref a) x → HRel (K, T) G H → seqI G x ns → upF (K, T) sdLaw [.ref a] H (fun v _ => v = .bl true) fun _ _ _ => False := fun x G d hr s =>
    ⟨[x], G, fun d _ => d = .bl true, fun _ _ _ => False, .cons d .nil, hr, ⟨x, ns, rfl, s, hn, fun _ => rfl⟩, fun v H' d G' _ _ r e => by
      subst e
      cases r
      rfl, fun _ _ _ _ _ _ h => h⟩
  rcases hs with (hs | ⟨o, hs⟩) | hs
  · refine key (.ref a) (updD (fun _ => none) a (.lst (ns.map D.int))) (.ref a) ⟨fun b c e => ?_, tabs⟩ (.inr ⟨a, rfl, updD_same⟩)
    by_cases hb : b = a
    · subst hb
      rw [updD_same] at e
      cases e
      exact ⟨_, hs, dvl_ints ns⟩
    · rw [updD_ne hb] at e
      cases e
  · exact key (.rol (ns.map D.int)) (fun _ => none) (.rol ⟨o, hs⟩ (dvl_ints ns)) ⟨(fun b c e => nomatch e), tabs⟩ (.inl (.inl rfl))
  · exact key (.wol (ns.map D.int)) (fun _ => none) (.wol (.inr hs) (dvl_ints ns)) ⟨(fun b c e => nomatch e), tabs⟩ (.inl (.inr rfl))
theorem cx_end {P : Program} {w : World} {H : Hp} {s : Shared} {e : Value} {s' : Shared} : L2N.CX P w [] H s (fun _ _ _ => False) e s' → False := fun ⟨_, _, _, _, _, _, _, _, _, _, _, _, h⟩ => h
section
variable {P : Program} {w : World} {K : PySem.W.Frag} {T : List (Addr × Str)} {cv : Value → Prop} {mg : Str → Option Value} {base h : Heap} {N ps : List Str} {x : Str} {k : Nat} {sb : DSt} {sd : SpD} {fa : List He.Fa} {fn : List He.DefD} {d : He.DefD}
theorem defAt (c : He.SaysD fa fn K) (hd : d ∈ fn) (h1 : d.dfl = []) (h2 : d.kwd = []) : ∃ fd, FunD K d.name d.qual d.params d.body d.scope [] [] (He.fAd K d.at_) fd ∧ fd.code = .ref (He.codeOf K d.at_) := by
  obtain ⟨fd, F⟩ := c.defs hd
  have e1 : d.dvs K = [] := by unfold He.DefD.dvs; rw [h1]; rfl
  have e2 : d.kws K = [] := by unfold He.DefD.kws; rw [h2]; rfl
  rw [e1, e2] at F
  refine ⟨fd, F, ?_⟩
  obtain ⟨oc, od, dV, kV, doc, pm, an, cdv, ct, osl, rfl, lk, hcd, _, _⟩ := F.ex
  obtain ⟨cc, e⟩ := He.codeIn_ref hcd
  subst e
  rw [He.codeOf_eq lk rfl]
theorem mkFn (X : K.In h) (G : h.Ns mainGlobals mg) (c : He.SaysD fa fn K) (hd : d ∈ fn) (hx : d.at_ = (x, none)) (h1 : d.dfl = []) (h2 : d.kwd = []) (hg : He.Fa.glo x ∈ fa) (S : FnScope N ps d.scope) (hcv : cv (.ref (He.codeOf K (x, none))))
    (len : ∀ ds G R EX, sd ds G R EX → ds.length = ps.length) (B : BodyD P w K T cv mg base N d.qual d.scope d.body k sb) (hp : ∀ ds G R EX, sd ds G R EX → sb (endsD (frg R) EX) (startD N ds) G)
    (hb : ∀ (kV doc pm : Value) (an : Option Addr) (cdv ct : Value) (us : List Value), us.length = ps.length → bindArgs (PySem.W.fnOf d.name d.qual d.params d.body d.scope .none kV doc pm an cdv ct) ⟨us, []⟩ = pure (ps.zip us)) :
    Fn P w (K, T) mg base x (k + 1) ps sd := by
  obtain ⟨fd, F, e⟩ := defAt c hd h1 h2
  rw [hx] at F e
  exact ⟨_, fd, okF F S (by rw [e]; exact hcv) len B hp, He.glo_ok X G (c.facts hg), F.kp, F.bindsN hb⟩
theorem glo_str (X : K.In h) (G : h.Ns mainGlobals mg) {x z : Str} (c : (He.Fa.str x z).ok K = true) : GloC K mg x (.str z) := by
  obtain ⟨t, e⟩ := He.str_ok X G c
  exact ⟨.str z, _, e, ⟨t, rfl⟩, fun _ _ => .str z⟩
theorem glo_int (X : K.In h) (G : h.Ns mainGlobals mg) {x : Str} {i : Int} (c : (He.Fa.int x i).ok K = true) : GloC K mg x (.int i) := by
  obtain ⟨t, e⟩ := He.int_ok X G c
  exact ⟨.int i, _, e, ⟨t, rfl⟩, fun _ _ => .int i⟩
theorem glo_tup (X : K.In h) (G : h.Ns mainGlobals mg) {x : Str} (vs : List He.Dv) (l : List D) (c : (He.Fa.glo x).ok K = true) (t : He.tupB K x vs = true) (hv : ∀ T H, DvL (K, T) H (vs.map (He.Dv.v K)) l) : GloC K mg x (.tup l) :=
  ⟨.ref (He.ga K x), _, He.glo_ok X G c, rfl, fun T H => .tup (He.tupB_ok t H) (hv T H)⟩
end
/-- a promise of nothing -/
theorem mkFn0 {P : Program} {w : World} {K : PySem.W.Frag} {T : List (Addr × Str)} {mg : Str → Option Value} {base h : Heap} {ps : List Str} {x : Str} {k : Nat} {sd : SpD} {fa : List He.Fa} {fn : List He.DefD} {d : He.DefD} (X : K.In h) (G : h.Ns mainGlobals mg) (c : He.SaysD fa fn K) (hd : d ∈ fn) (hx : d.at_ = (x, none)) (h1 : d.dfl = []) (h2 : d.kwd = []) (hg : He.Fa.glo x ∈ fa) (no : ∀ ds G R EX, ¬ sd ds G R EX)
    (hb : ∀ (kV doc pm : Value) (an : Option Addr) (cdv ct : Value) (us : List Value), us.length = ps.length → bindArgs (PySem.W.fnOf d.name d.qual d.params d.body d.scope .none kV doc pm an cdv ct) ⟨us, []⟩ = pure (ps.zip us)) :
    Fn P w (K, T) mg base x k ps sd := by
  obtain ⟨fd, F, e⟩ := defAt c hd h1 h2
  rw [hx] at F e
  exact ⟨_, fd, ⟨fun vs H Q E ⟨ds, G, R, EX, _, _, h, _⟩ => (no _ _ _ _ h).elim, fun A outer s H args us vs Q E _ _ _ _ ⟨ds, G, R, EX, _, _, h, _⟩ => (no _ _ _ _ h).elim⟩, He.glo_ok X G (c.facts hg), F.kp, F.bindsN hb⟩
theorem pure_offF (ds : List D) (G : DH) (R : DK) (EX : DX) (h : sd__law_off ds G R EX) : b__law_off (endsD (frg R) EX) (startD N__law_off ds) G := by
  obtain ⟨a, m, l, e, h1, h2, h3, h4, q⟩ := h
  exact pure_off ds G (frg R) EX ⟨a, m, l, e, h1, h2, h3, h4, fun r l' a b c => frg_of (q r l' a b c)⟩
theorem len_off (ds : List D) (G : DH) (R : DK) (EX : DX) (h : sd__law_off ds G R EX) : ds.length = 2 := by
  obtain ⟨a, m, l, rfl, _⟩ := h
  rfl
theorem len_dice (ds : List D) (G : DH) (R : DK) (EX : DX) (h : sd__law_dice ds G R EX) : ds.length = 2 := by
  obtain ⟨a, m, l, rfl, _⟩ := h
  rfl
theorem len_alike (k : Nat) (ds : List D) (G : DH) (R : DK) (EX : DX) (h : sd__law_alike (k + 1) ds G R EX) : ds.length = 2 := by
  obtain ⟨a, m, l, rfl, _⟩ := h
  rfl
theorem len_law (ds : List D) (G : DH) (R : DK) (EX : DX) (h : sdLaw ds G R EX) : ds.length = 1 := by
  obtain ⟨a, m, rfl, _⟩ := h
  rfl
/-- the law's walk, from its promise at the head's heap -/
theorem law_at {l : PySem.W.OpenLaw} {P : Program} (hP : l.prog = P) {w : World} {K : PySem.W.Frag} {mg : Str → Option Value} {fa : List He.Fa} {fn : List He.DefD} {ts : List He.Tab} {tf : List He.Defn} {ex : PySem.W.Frag → Bool} {h : Heap} {fadr : Addr} {k : Nat} {x : Str} {T : List (Addr × Str)} {d : He.DefD}
    (X : K.In h) (Y : He.SaysX fa fn ts tf ex w h K) (G : h.Ns mainGlobals mg) (hm : mg "law" = some (.ref fadr)) (hd : d ∈ fn) (hx : d.at_ = (("law" : Str), none)) (h1 : d.dfl = []) (h2 : d.kwd = []) (hg : He.Fa.glo "law" ∈ fa)
    (hT : ∀ p ∈ T, ∃ q ∈ tf, (He.cT K q).2 = p.1)
    (hb : ∀ (kV doc pm : Value) (an : Option Addr) (cdv ct : Value) (us : List Value), us.length = 1 → bindArgs (PySem.W.fnOf d.name d.qual d.params d.body d.scope .none kV doc pm an cdv ct) ⟨us, []⟩ = pure ([x].zip us))
    (F : ∀ base : Heap, K.In base → base.Ns mainGlobals mg → (∀ q ∈ tf, LamX.TabB base mg (He.cT K q).1 (He.cT K q).2) → ∀ fd, FunD K d.name d.qual d.params d.body d.scope [] [] (He.ga K "law") fd → FnOk P w K mg base (L2N.CX P w) k (He.ga K "law") fd [x] (upF (K, T) sdLaw)) : LamX.LawAtS l w K (L2N.CX P w) k 63 x mg fadr h := by
  subst hP
  obtain ⟨fd, Fd, e⟩ := defAt Y.t.d hd h1 h2
  rw [hx] at Fd e
  have em := hm.symm.trans (He.glo_ok X G (Y.t.d.facts hg))
  cases em
  refine ⟨fd, tf.map (He.cT K), upF (K, T) sdLaw, fun p hp => ?_, fun p hp => ?_, fun p hp => ?_, fun s u => Fd.bindsA (ps := [x]) hb s [u] rfl, fun H a ns hn _ hc hs => sdLaw_end (cs := tf.map (He.cT K)) (fun p hp => ?_) hn hc hs, fun base Xb Gb TBs => ?_⟩
  · obtain ⟨q, hq, rfl⟩ := List.mem_map.mp hp
    exact Y.empty q hq
  · obtain ⟨q, hq, rfl⟩ := List.mem_map.mp hp
    exact Y.out q hq
  · obtain ⟨q, hq, rfl⟩ := List.mem_map.mp hp
    exact PySem.W.codeHd_of_K X (Y.hd q hq)
  · obtain ⟨q, hq, e⟩ := hT p hp
    exact ⟨_, List.mem_map.mpr ⟨q, hq, rfl⟩, e⟩
  · exact F base Xb Gb (fun q hq => TBs _ (List.mem_map.mpr ⟨q, hq, rfl⟩)) fd Fd
end Cc
/-! ### loops over lists while an exception is handled -/
namespace Cc
open PySem PySem.Spec PyProof.Rows L2 HotX
section
variable {prog : Program} {w : World} {A : Around} {E : Value → Shared → Prop} {s : Shared}
/-- the walked list has ended: the StopIteration bears the handled exception as its context -/
theorem lstEnd_hot {k lo x1 : Addr} {n : Nat} {vs : Array Value} {Q : Option Value → Shared → Prop} (hot : HotAt A x1 s.heap) (nk : x1 ≠ k) (hk : s.heap.IsListIter k lo n) (hlo : s.heap.IsList lo vs) (no : vs[n]? = none)
    (q : ∀ h2, (∀ b o, b ≠ k → s.heap.get? b = some o → h2.get? b = some o) → Q none { s with heap := h2 }) : wpAny (model prog w) A (pyNext (.ref k)) Q E s := by
  obtain ⟨ok, gk, ck, dk⟩ := id hk
  obtain ⟨ol, gl, cl, m, dl⟩ := hlo
  obtain ⟨ha, o1, f1, g1, d1, c1⟩ := hot
  have hty := hk.typeIs
  unfold pyNext
  refine wpAny_bind (wpAny_attempt (wpAny_callSpecial?_slot (name := Str.ofString "__next__") hty slot_listiter_next (wpAny_call_entry slot_listiter_next hty entry_listiter_next ?_ (args_listiter_next _))))
  show wpAny _ _ (field (.ref k) 0 >>= _) _ _ s
  refine wpAny_bind (wpAny_field gk dk (x := .ref lo) rfl ?_)
  show wpAny _ _ (if (Value.ref lo == Value.none) = true then _ else _) _ _ s
  rw [if_neg (show ¬ ((Value.ref lo == Value.none) = true) from Bool.false_ne_true)]
  show wpAny _ _ (field (.ref k) 1 >>= _) _ _ s
  refine wpAny_bind (wpAny_field gk dk (x := .int n 0) rfl ?_)
  show wpAny _ _ (seqItems? (.ref lo) >>= _) _ _ s
  refine wpAny_bind (wpAny_seqItems gl dl ?_)
  simp only [Int.toNat_natCast, no]
  refine wpAny_bind (wpAny_rule (wpAny_bind (wpAny_setField gk dk (by simp) ?_)))
  show wpAny _ _ (newExc (.type "StopIteration") [] >>= _) _ _ _
  refine wpAny_bind ?_
  simp only [newExc, newTuple]
  refine wpAny_bind (wpAny_newObj_type ?_ (by size_fits))
  refine wpAny_bind (m := firstArgMember _ _) (wpAny_of_eq (a := Value.none) (by first | rfl | (simp only [firstArgMember]; rfl)) (wpAny_newObj_type ?_ (by size_fits)))
  have g2 : (s.heap.update k (Obj.mapFields (·.setIfInBounds 0 .none))).get? x1 = some o1 := by
    first | (rw [Heap.get?_update_other _ _ (Ne.symm nk)]; exact g1) | (rw [Heap.get?_update_other _ _ nk]; exact g1)
  refine raiseNew_hot (x1 := x1) ⟨ha, o1, f1, Heap.get?_push_of_some _ (Heap.get?_push_of_some _ g2), d1, c1⟩ ?_ (Heap.get?_push_size _ rfl) rfl (by first | (simp; done) | (simp; omega) | (simp only [Array.size_append]; simp; omega)) ?_
  · exact Nat.ne_of_lt (Heap.lt_size (Heap.get?_push_of_some _ g2))
  · refine wpAny_bind (wpAny_isInstance (T := "StopIteration") (b := true) ⟨_, Heap.get?_update_self _ (Heap.get?_push_size _ rfl) rfl, rfl⟩ isSubtype_stop (wpAny_pure (q _ fun b o nb e => ?_)))
    have e2 : (s.heap.update k (Obj.mapFields (·.setIfInBounds 0 .none))).get? b = some o := by
      first | (rw [Heap.get?_update_other _ _ (Ne.symm nb)]; exact e) | (rw [Heap.get?_update_other _ _ nb]; exact e)
    rw [Heap.get?_update_other _ _ (Nat.ne_of_gt (Heap.lt_size (Heap.get?_push_of_some _ e2)))]
    exact Heap.get?_push_of_some _ (Heap.get?_push_of_some _ e2)
end
/-- the walk over the list at a (n items to come, the next one the i-th) while an exception is handled, the new list at D -/
def hgo (K : PySem.W.Frag) (a D : Addr) (g : TG) (te : TE) (vs : List Nat) (σ : L2.St) (k : Hp → Prop) : Nat → Nat → Hp → Prop
  | 0, i, H => (∃ xs, SqL K H a xs ∧ xs.length ≤ i) ∧ k H
  | n + 1, i, H => ∃ xs x, SqL K H a xs ∧ xs[i]? = some x ∧ g x (wipe σ vs) H fun σ2 H2 => wipe σ2 vs = wipe σ vs ∧ te σ2 H2 fun y H3 => ∃ acc, H3 D = some (.lst acc) ∧ acc.length < sizeLine ∧ hgo K a D g te vs σ k n (i + 1) (upd H3 D (.lst (acc ++ [y])))
def tHot (K : PySem.W.Frag) (ti : TE) (g : TG) (te : TE) (vs : List Nat) : TE := fun σ H Q => ti σ H fun x H1 => ∃ a n, x = .ref a ∧ (∃ xs, SqL K H1 a xs) ∧ ∀ D, H1 D = none → hgo K a D g te vs σ (fun H2 => Q (.ref D) H2) n 0 (upd H1 D (.lst []))
section
variable {X : Cx}
theorem pe_hot {elt tg iter : Expr} {scope : Scope} {own : List (Str × Nat)} {pos : Pos} {ti : TE} {g : TG} {te : TE} (hot : L2H.HotC X) (hN : X.N.Nodup) (hi : PE X iter ti) (ok : BlkOk X.N X.env.scope scope own)
    (hg : ∀ (s : Shared) (H : Hp) (C : Addr) (cl : List (Str × Addr)) (fp : List Addr), PG (X.blk s H scope (compEnvC scope cl C X.env) fp) tg g)
    (he : ∀ (s : Shared) (H : Hp) (C : Addr) (cl : List (Str × Addr)) (fp : List Addr), PE (X.blk s H scope (compEnvC scope cl C X.env) fp) elt te) (hs : ∀ x, foldedSetIterable iter X.env x = pure x := by intro _; rfl) :
    PE X (.ListComp elt [⟨tg, iter, [], 0⟩] scope pos) (tHot X.K ti g te (own.map (·.2))) := by
  refine ⟨fun pins s σ H Q I h => ?_⟩
  rw [eval_ListComp]
  have fr : ∀ y ∈ scope.names, y.2 = .free → ∃ c, X.env.cells.lookup y.1 = some c := fun y hy e => by
    rcases ok.free y hy e with z | z
    · exact I.ok.has _ (.inl z)
    · exact I.ok.has _ (.inr z)
  refine wpAny_comprehension_free (use := none) rfl hs (closure_ok fr) ok.kind (fun y hy e => by rw [ok.uniq y hy, e]) (thn (hi.run pins s σ H _ I h) fun v s1 ⟨x, H1, I1, r1, a, n0, ex, ⟨xs, hq⟩, q⟩ => ?_)
  subst ex
  cases r1
  obtain ⟨its, rv, pl, hz⟩ := I1.list hq
  -- the handled exception
  obtain ⟨p, ⟨hh, fs, d1, c1⟩, hp⟩ := hot
  obtain ⟨gp, np, _, _, _⟩ := I1.pin p (List.mem_append_left _ hp)
  have ltp := Heap.lt_size gp
  refine wpAny_pyIter_list pl.isList ?_
  obtain ⟨it, hit⟩ : ∃ it, s1.heap.objs.size = it := ⟨_, rfl⟩
  obtain ⟨s2, hs2⟩ : ∃ s2 : Shared, s2 = { s1 with heap := s1.heap.push { cls := .type "list_iterator", data := .fields #[.ref a, .int 0 0] } } := ⟨_, rfl⟩
  have I2 : Inv X pins σ H1 s2 := by rw [hs2]; exact I1.kept (t' := s1.toks) fun b o e => Heap.get?_push_of_some _ e
  have nit : H1 it = none := by rw [← hit]; exact I1.hok.fresh (Nat.le_refl _)
  have fit : FpOk X pins H1 it := by rw [← hit]; exact I1.fpOk (Nat.le_refl _) (I1.hok.fresh (Nat.le_refl _))
  have st2 : s2.heap.IsListIter it a 0 := by rw [hs2, ← hit]; exact ⟨_, Heap.get?_push_size _ rfl, rfl, rfl⟩
  have sz2 : s2.heap.objs.size = it + 1 := by rw [hs2, ← hit]; exact Heap.size_push _ _
  have gp2 : s2.heap.get? p.1 = some p.2 := by rw [hs2]; exact Heap.get?_push_of_some _ gp
  rw [hit]
  show wpAny _ _ (newList []) _ _ _
  rw [← hs2]
  refine wpAny_newObj_type (newEnv_comp ?_) (by show 0 ≤ sizeLine; decide)
  obtain ⟨D, hD⟩ : ∃ D, s2.heap.objs.size = D := ⟨_, rfl⟩
  have nD : H1 D = none := I2.hok.fresh (Nat.le_of_eq hD)
  have q := q D nD
  rw [hD]
  obtain ⟨s3, hs3⟩ : ∃ s3 : Shared, s3 = { s2 with heap := s2.heap.push { cls := .type "list", data := .seq ([] : List Value).toArray } } := ⟨_, rfl⟩
  have I3 : Inv X pins σ (upd H1 D (.lst [])) s3 := by
    rw [hs3]
    exact I2.laid (t' := s2.toks) (fun b o e => Heap.get?_push_of_some _ e) (Nat.le_of_eq hD) ⟨Nat.zero_le _, [], 0, .nil, by rw [← hD]; exact Heap.get?_push_size _ rfl⟩
  have sz3 : s3.heap.objs.size = it + 1 + 1 := by rw [hs3]; show (s2.heap.push _).objs.size = _; rw [Heap.size_push, sz2]
  have nDi : it ≠ D := by omega
  have lpi : p.1 < it := by rw [← hit]; exact ltp
  have lpD : p.1 < D := Nat.lt_trans lpi (by omega)
  have fp3 : ∀ b ∈ [it], FpOk X pins (upd H1 D (.lst [])) b ∧ b < s3.heap.objs.size := fun b hb => by
    have e : b = it := by simpa using hb
    subst e
    exact ⟨⟨by rw [upd_ne nDi]; exact fit.1, fit.2⟩, by omega⟩
  have st3 : s3.heap.IsListIter it a 0 := by
    obtain ⟨o, e, r⟩ := st2
    exact ⟨o, by rw [hs3]; exact Heap.get?_push_of_some _ e, r⟩
  have gp3 : s3.heap.get? p.1 = some p.2 := by rw [hs3]; exact Heap.get?_push_of_some _ gp2
  have np3 : upd H1 D (.lst []) p.1 = none := by
    rw [upd_ne (Nat.ne_of_lt lpD)]
    exact np
  have I4 := block_start I3 ok hN fp3
  have pg := hg s3 (upd H1 D (.lst [])) s3.heap.objs.size (cellsFrom (s3.heap.objs.size + 1) scope.names (cloFrom X.env.cells scope.names [])) [it]
  have pe := he s3 (upd H1 D (.lst [])) s3.heap.objs.size (cellsFrom (s3.heap.objs.size + 1) scope.names (cloFrom X.env.cells scope.names [])) [it]
  rw [← hs3]
  obtain ⟨H3, eH3⟩ : ∃ H3, upd H1 D (.lst []) = H3 := ⟨_, rfl⟩
  obtain ⟨L3, eL3⟩ : ∃ L3, s3.heap.objs.size = L3 := ⟨_, rfl⟩
  rw [eH3] at I3 I4 pg pe q np3 fp3
  rw [eL3] at I4 pg pe
  obtain ⟨ce, ece⟩ : ∃ ce, compEnvC scope (cellsFrom (L3 + 1) scope.names (cloFrom X.env.cells scope.names [])) L3 X.env = ce := ⟨_, rfl⟩
  obtain ⟨s4, es4⟩ : ∃ s4 : Shared, { s3 with heap := pushCells (s3.heap.push { cls := .type "dict", data := .dict #[] }) scope.names } = s4 := ⟨_, rfl⟩
  have cl : ce.locals = L3 := by rw [← ece]; rfl
  show codeAny _ _ (.compStart (.ListComp elt [⟨tg, iter, [], 0⟩] scope pos) 0 (.ref it) (.ref D) (compEnvC scope (cellsFrom (s3.heap.objs.size + 1) scope.names (cloFrom X.env.cells scope.names [])) s3.heap.objs.size X.env)) (compPost (model X.prog X.w) X.A X.xe none (EP X pins σ Q) (.ref D) s3.heap.objs.size) { s3 with heap := pushCells (s3.heap.push { cls := .type "dict", data := .dict #[] }) scope.names }
  rw [eL3, ece, es4]
  rw [ece] at I4 pg pe
  rw [es4] at I4
  have kp4 : ∀ b o, s3.heap.get? b = some o → s4.heap.get? b = some o := fun b o e => by rw [← es4]; exact pushCells_keeps _ _ _ _ (Heap.get?_push_of_some _ e)
  have st4 : s4.heap.IsListIter it a 0 := by
    obtain ⟨o, e, r⟩ := st3
    exact ⟨o, kp4 _ _ e, r⟩
  -- the handled exception, at any state of the block
  have hotAt : ∀ {σ' : L2.St} {H' : Hp} {pi : List (Addr × Obj)} {s' : Shared}, Inv (X.blk s3 H3 scope ce [it]) pi σ' H' s' → HotAt X.A p.1 s'.heap := fun {σ' H' pi s'} J => by
    obtain ⟨sl, e⟩ := J.base.any (show s3.heap.get? p.1 = some p.2 from gp3) np3 (by
      intro z
      have z' : p.1 = it := by simpa using (show p.1 ∈ [it] from z)
      exact Nat.ne_of_lt lpi z')
    exact ⟨hh, _, fs, e, d1, c1⟩
  have fpAt : ∀ {σ' : L2.St} {H' : Hp} {s' : Shared}, Inv (X.blk s3 H3 scope ce [it]) [] σ' H' s' → H' it = none → FpOk (X.blk s3 H3 scope ce [it]) [] H' it := fun {σ' H' s'} J n => by
    have mi : it ∈ (X.blk s3 H3 scope ce [it]).ex := List.mem_cons_self
    exact ⟨n, (J.ok.exf it mi).1, J.ok.exfs it mi, .inl mi, fun x c e => (J.ok.exf it mi).2 x c e, fun z hz => absurd (show z ∈ ([] : List (Addr × Obj)) ++ [] from hz) (by simp)⟩
  have loop : codeAny (model X.prog X.w) X.A (.compLoop (.ListComp elt [⟨tg, iter, [], 0⟩] scope pos) 0 (.ref it) (.ref D) ce) (compPost (model X.prog X.w) X.A X.xe none (EP X pins σ Q) (.ref D) L3) s4 := by
    refine compLoop_any (fun n s' => ∃ (i : Nat) (H' : Hp), Inv (X.blk s3 H3 scope ce [it]) [] (wipe σ (own.map (·.2))) H' s' ∧ s'.heap.IsListIter it a i ∧ H' it = none ∧ hgo X.K a D g te (own.map (·.2)) σ (fun H2 => Q (.ref D) H2) n i H') ?_ n0 ⟨0, H3, I4, st4, (fp3 it List.mem_cons_self).1.1, q⟩
    rintro n s5 ⟨i, H5, I5, st5, n5, q5⟩
    obtain ⟨f0, f1, f2, f3, f4, f5⟩ := fpAt I5 n5
    cases n with
    | succ n =>
      obtain ⟨xs5, x5, hq5, hx5, q5⟩ := q5
      obtain ⟨its5, rv5, pl5, _⟩ := I5.list hq5
      obtain ⟨u, hu, ru⟩ := rv5.get hx5
      refine wpAny_pyNext_list_item st5 pl5.isList (x := u) (by simpa using hu) fun h6 st6 sb => ?_
      have I6 : Inv (X.blk s3 H3 scope ce [it]) [] (wipe σ (own.map (·.2))) H5 { s5 with heap := h6 } := I5.turned (t' := s5.toks) (fun b o hb e => (sb.2 b hb).trans e) f0 f1 f3 f4 f5
      obtain ⟨oi, ei, ci, di⟩ := id st6
      refine go_of (s := { s5 with heap := h6 }) ei ci di (by decide) ?_
      have I7 := I6.pinned (fp := [it]) (fun b hb => by
        have e : b = it := by simpa using hb
        subst e
        exact fpAt I6 n5) (fun b hb => by
        have e : b = it := by simpa using hb
        subst e
        exact ⟨oi, ei, fun v z => by rw [di] at z; cases z⟩)
      refine thnF (pg.run _ _ _ H5 _ u _ I7 ru q5) fun _ s8 ⟨σ8, H8, I8, hw8, q8⟩ => ?_
      refine wpAny_tests_nil ?_
      simp only [if_true]
      refine thnF (pe.run _ s8 σ8 H8 _ I8 q8) fun z s9 ⟨yv, H9, I9, r9, acc, hD9, hz9, nx⟩ => ?_
      refine app_ok (X := X.blk s3 H3 scope ce [it]) I9 hD9 hz9 r9 fun s10 I10 => ?_
      have pin10 := I10.pin (it, oi) (List.mem_append_right _ (List.mem_append_right _ (mem_pinsAt (fp := [it]) List.mem_cons_self ei)))
      have lw : (wipe σ (own.map (·.2))).length = σ8.length := by rw [← hw8, wipe_length]
      refine ⟨n, Nat.lt_succ_self n, i + 1, _, (I10.unpinned (pins := [])).weak lw (fun j v e => ?_), ⟨oi, pin10.1, ci, di⟩, pin10.2.1, nx⟩
      rw [← hw8] at e
      exact (wipe_some e).1
    | zero =>
      obtain ⟨⟨xs5, hq5, hl5⟩, q5⟩ := q5
      obtain ⟨its5, rv5, pl5, _⟩ := I5.list hq5
      have l5 := rv5.length
      refine lstEnd_hot (hotAt I5) (Nat.ne_of_lt lpi) st5 pl5.isList (by simp; omega) fun h6 k6 => ?_
      have I6 : Inv (X.blk s3 H3 scope ce [it]) [] (wipe σ (own.map (·.2))) H5 { s5 with heap := h6 } := I5.turned (t' := s5.toks) (fun b o hb e => k6 b o hb e) f0 f1 f3 f4 f5
      have I7 : Inv X pins σ H5 { s5 with heap := h6 } := I3.call' (ch := [it]) I6.os I6.base I6.hok I6.bare fun b hb => ⟨(fp3 b hb).1.2.2.2.1, (fp3 b hb).1.2.1, (fp3 b hb).1.2.2.2.2.1, (fp3 b hb).1.2.2.2.2.2⟩
      have nC : H5 L3 = none := by
        have z : H5 ce.locals = none := I6.free
        rw [cl] at z
        exact z
      obtain ⟨m, hn, _⟩ := I6.loc
      have hn2 : h6.Ns ce.locals m := hn
      rw [cl] at hn2
      have fC := I3.fpOk (b := L3) (H' := H5) (Nat.le_of_eq eL3) nC
      obtain ⟨g0, g1, g2, g3, g4, g5⟩ := fC
      exact ⟨m, hn2, fun h7 sb => ⟨.ref D, H5, I7.turned (t' := s5.toks) (fun b o hb e => (sb.2 b hb).trans e) g0 g1 g3 g4 g5, rfl, q5⟩⟩
  exact codeAny_compStart_list loop (wpAny_pyIter_listiter st4 loop)
end
/-! the same on data -/
def dHot (da : DE) (g : DG) (te : DE) (vs : List Nat) : DE := fun δ G R EX => da δ G (fun d G1 => match d with
  | .ref a => ∃ l, G1 a = some (.lst l) ∧ ∀ p, G1 p = none → goLc (fun G2 => G2 a = some (.lst l)) p g dYes te (fun G2 => R (.ref p) G2) (wipeD δ vs) l (updD G1 p (.lst []))
  | _ => False) EX
theorem hgo_up {K : KT} {g0 : TG} {g : DG} {te : DE} {vs : List Nat} {σ : L2.St} {δ : DS} {H0 : Hp} {a p : Addr} {l0 : List D} {k : DH → Prop} {kk : Hp → Prop} (cg : CT vs g0) (lg : ∀ v σ H Q, upG K noE g v σ H Q → g0 v σ H Q) (sr : SRel K H0 σ δ)
    (hk : ∀ G H, Up H0 H → HRel K G H → k G → kk H) : ∀ (rest : List D) (i : Nat) (G : DH) (H : Hp), l0.drop i = rest → Up H0 H → HRel K G H → goLc (fun G2 => G2 a = some (.lst l0)) p g dYes te k (wipeD δ vs) rest G → hgo K.1 a p g0 (up K noE te) vs σ kk rest.length i H
  | [], i, G, H, e, u, hr, q => by
    obtain ⟨hG, q⟩ := q
    obtain ⟨xs, e1, r1⟩ := hr _ _ hG
    refine ⟨⟨xs, SqL.of e1, ?_⟩, hk G H u hr q⟩
    have := congrArg List.length e
    rw [List.length_drop, List.length_nil] at this
    rw [r1.length]
    omega
  | x :: rest, i, G, H, e, u, hr, q => by
    obtain ⟨hG, q⟩ := q
    obtain ⟨xs, e1, r1⟩ := hr _ _ hG
    have hx : l0[i]? = some x := by
      have := congrArg (fun z => z[0]?) e
      simpa using this
    have hd : l0.drop (i + 1) = rest := by
      rw [← List.drop_drop, e]
      rfl
    obtain ⟨v, e2, r2⟩ := r1.get hx
    have cw := cg v (wipe σ vs) H (fun σ3 H3 => up K noE te σ3 H3 fun y H4 => ∃ acc, H4 p = some (.lst acc) ∧ acc.length < sizeLine ∧ hgo K.1 a p g0 (up K noE te) vs σ kk rest.length (i + 1) (upd H4 p (.lst (acc ++ [y]))))
      (lg _ _ _ _ ⟨_, wipeD δ vs, G, _, noX, r2, (sr.up u).wipe vs, hr, q, fun σ3 H3 δ3 G3 u3 s3 h3 q3 => ?_, CloX.no⟩)
    · rw [wipe_wipe] at cw
      exact ⟨xs, v, SqL.of e1, e2, cw⟩
    · have q3 : (if true = true then te δ3 G3 (fun y G4 => ∃ acc, G4 p = some (.lst acc) ∧ acc.length < sizeLine ∧ goLc (fun G2 => G2 a = some (.lst l0)) p g dYes te k (wipeD δ vs) rest (updD G4 p (.lst (acc ++ [y])))) noX else goLc (fun G2 => G2 a = some (.lst l0)) p g dYes te k (wipeD δ vs) rest G3) := q3
      rw [if_pos rfl] at q3
      refine ⟨δ3, G3, _, noX, s3, h3, q3, fun y H4 dy G4 u4 h4 r4 q4 => ?_, CloX.no⟩
      obtain ⟨acc, ea, hl, q4⟩ := q4
      obtain ⟨ys, ey, ry⟩ := h4 _ _ ea
      have uw : Up H4 (upd H4 p (.lst (ys ++ [y]))) := Up.put ey trivial
      exact ⟨ys, ey, by rw [ry.length]; exact hl, hgo_up cg lg sr hk rest (i + 1) _ _ hd ((u.trans (u3.trans u4)).trans uw) (h4.put (c := .lst (acc ++ [dy])) ey trivial ⟨_, upd_same, (ry.up uw).append (.cons (r4.up uw) .nil)⟩) q4⟩
section
variable {X : Cx} {E : EK}
theorem pd_hot {elt tg iter : Expr} {scope : Scope} {own : List (Str × Nat)} {pos : Pos} {de te : DE} {g : DG} (hot : L2H.HotC X) (hN : X.N.Nodup) (hi : PD X E iter de) (ok : BlkOk X.N X.env.scope scope own)
    (B : BlkP X E scope (own.map (·.2)) tg elt [] g dYes te) (hs : ∀ x, foldedSetIterable iter X.env x = pure x := by intro _; rfl) : PD X E (.ListComp elt [⟨tg, iter, [], 0⟩] scope pos) (dHot de g te (own.map (·.2))) := by
  obtain ⟨g0, c0, l0, p0⟩ := B.g
  refine ⟨imE (pe_hot (te := up (kt X E) noE te) hot hN hi.pe ok p0 (fun s H C cl fp => (B.e s H C cl fp).pe) hs) fun σ H Q ⟨δ, G, R, EX, sr, hr, h, cr, cx⟩ => ⟨δ, G, _, EX, sr, hr, h, fun v H1 d G1 u1 h1 r1 q1 => ?_, cx⟩⟩
  dsimp only at q1
  split at q1
  · rename_i a
    cases r1
    obtain ⟨l, e, q1⟩ := q1
    obtain ⟨xs, e1, _⟩ := h1 _ _ e
    refine ⟨a, l.length, rfl, ⟨xs, SqL.of e1⟩, fun D hD => ?_⟩
    have un : Up H1 (upd H1 D (.lst [])) := Up.new hD
    exact hgo_up c0 l0 (sr.up u1) (fun G2 H2 u2 h2 q2 => cr _ _ _ _ (u1.trans u2) h2 (.ref D) q2) l 0 _ _ (by simp) un (h1.new (c := .lst []) hD ⟨[], upd_same, .nil⟩) (q1 D (h1.none hD))
  · exact False.elim q1
end
end Cc
/-! ### a lambda that is handed to a def and called there -/
namespace Cc
open PySem PySem.Spec PyProof.Rows L2
open LamX (LamS CodeO lamEnv lamCx)
/-- the context of a handed lambda's body; what it lets out has no context of its own -/
abbrev lamC (X : Cx) (A : Around) (outer : List Env) (s : Shared) (H : Hp) (E : XK) (scope : Scope) (f c' : Addr) : Cx :=
  (lamCx X A outer s H E scope f c').tr [] fun e s' => wpAny (model X.prog X.w) (A.deeper (lamEnv X scope s.heap.objs.size f c')) (leaving (lamEnv X scope s.heap.objs.size f c') e) (fun _ s2 => L2N.CX X.prog X.w outer H s E e s2) (fun e2 s2 => L2N.CX X.prog X.w outer H s E e2 s2) s'
section
variable {X : Cx} {pins : List (Addr × Obj)} {σ : L2.St} {H : Hp} {s : Shared}
/-- x(), in the def that was given the lambda -/
theorem pe_thunk {Eg : XK} {Ng : List Str} {qg : Str} {sg : Scope} {g f c' : Addr} {cdg pm ctv : Value} {params : Arguments} {body : Expr} {scope : Scope} {k i : Nat} {a : Str} {pn : List (Addr × Obj)} {xe : Value → Shared → Prop} {W : WX} {tl : XK → TE} {p1 p2 : Pos}
    (I : Inv X pins σ H s) (L : LamS X.env.scope scope) (hf : s.heap.get? f = some (PySem.W.kla_obj "<lambda>" (X.env.qual ++ "<lambda>") params body scope (cloFrom X.env.cells scope.names []) pm c' ctv)) (hfn : H f = none) (hfr : f ∉ frs X.stack)
    (hbind : bindArgs (PySem.W.kla_fn "<lambda>" (X.env.qual ++ "<lambda>") params body scope (cloFrom X.env.cells scope.names []) pm (.ref c') ctv) ⟨[], []⟩ = pure [])
    (tk : L2N.Takes ((cxOf (L2N.CX X.prog X.w) X.prog X.w X.K X.mg X.base Ng qg sg g cdg X.A X.stack s H Eg).tr pn xe) W) (hr : Room (k + 1) (X.A.deeper (envOfC qg sg s.heap.objs.size g cdg)))
    (hbody : ∀ (A : Around) (outer : List Env) (s : Shared) (H : Hp) (E : XK), Room k (A.deeper (lamEnv X scope s.heap.objs.size f c')) → PE (lamC X A outer s H E scope f c') body (tl E))
    (hN : Ng[i]? = some a) (hv : Vis sg a) (hd : (a == ("__debug__" : Str)) = false := by decide) (hcd : (a == ("__classdict__" : Str)) = false := by decide) :
    PE ((cxOf (L2N.CX X.prog X.w) X.prog X.w X.K X.mg X.base Ng qg sg g cdg X.A X.stack s H Eg).tr pn xe) (.Call (.Name a p1) [] [] p2)
      (fun σZ HZ Q => σZ[i]? = some (some (.ref f)) ∧ HZ c' = some (CodeO c' (X.env.qual ++ "<lambda>")) ∧ ∃ Ech : XK, (∀ cls d H', Ech cls d H' → W cls d σZ H') ∧ tl Ech σ HZ Q) := by
  refine ⟨fun pz sz σz Hz Q Iz ⟨h1, h2, Ech, hW, h3⟩ => wpAny_Call_Name_kw (thn ((pe_var (pos := p1) (i := i) hN hv hd hcd).run pz sz σz Hz (fun v H1 => v = .ref f ∧ H1 = Hz) Iz ⟨.ref f, h1, rfl, rfl⟩) fun u s1 ⟨v, H1, I1, r1, ev, eH⟩ => ?_)⟩
  subst ev
  rw [eH] at I1
  obtain rfl : u = Value.ref f := r1
  have un : Un (frs X.stack) [] H Hz s.heap s1.heap := I1.base
  have gf : s1.heap.get? f = some (PySem.W.kla_obj "<lambda>" (X.env.qual ++ "<lambda>") params body scope (cloFrom X.env.cells scope.names []) pm c' ctv) := un.keep f _ hf hfn hfr (fun z => nomatch (show f ∈ ([] : List Addr) from z))
  refine PySem.W.callWith_F0 ⟨_, _, _, _, gf⟩ ?_
  obtain ⟨⟨oc, vs, t, hoc, hdc, hvc⟩, _, _⟩ := I1.hok c' _ h2
  have go : codeAny (model X.prog X.w) (X.A.deeper (envOfC qg sg s.heap.objs.size g cdg)) (.call (.ref f) ⟨[], []⟩) (CR (L2N.CX X.prog X.w) (envOfC qg sg s.heap.objs.size g cdg :: X.stack) X.prog X.w Hz s1 Q Ech) s1 := by
    refine PySem.W.kla_callFunE hr.depth gf rfl L.co L.gen rfl ⟨c', oc, vs, t, rfl, hoc, hdc, hvc⟩ ?_
    rw [hbind]
    refine wpAny_pure (wpAny_newFunctionEnv (fun y hy => (L.own y hy).2) (fun y hy => absurd hy (by simp)) (fun h₁ hns hsb => ⟨I1.nolimit.fresh _ hsb, ?_⟩) L.kind)
    have kp : ∀ b o, s1.heap.get? b = some o → h₁.get? b = some o := fun b o e => hsb.extBut b o (Nat.ne_of_lt (Heap.lt_size e)) (Heap.get?_push_of_some _ e)
    have J0 : Inv (lamCx X (X.A.deeper (envOfC qg sg s.heap.objs.size g cdg)) (envOfC qg sg s.heap.objs.size g cdg :: X.stack) s1 Hz Ech scope f c') [] σ Hz { s1 with heap := h₁, toks := s1.toks + ([] : List (Str × Value)).length } :=
      LamX.lam_start2 I L I1.env0 hr.hd un hns kp
    have J := J0.toTry fun e s' => wpAny (model X.prog X.w) ((X.A.deeper (envOfC qg sg s.heap.objs.size g cdg)).deeper (lamEnv X scope s1.heap.objs.size f c')) (leaving (lamEnv X scope s1.heap.objs.size f c') e) (fun _ s2 => L2N.CX X.prog X.w (envOfC qg sg s.heap.objs.size g cdg :: X.stack) Hz s1 Ech e s2) (fun e2 s2 => L2N.CX X.prog X.w (envOfC qg sg s.heap.objs.size g cdg :: X.stack) Hz s1 Ech e2 s2) s'
    show codeAny _ _ (.expr body (lamEnv X scope s1.heap.objs.size f c')) _ _
    refine PySem.W.kla_codeExpr (wpAny_mono ((hbody _ _ s1 Hz Ech (hr.deeper _)).run [] _ _ Hz Q J h3) (fun v s' ⟨w', H', J', rv, q⟩ => ⟨w', H', J'.os, J'.bare, J'.base, J'.hok, rv, q⟩) fun e s' hq => hq)
  refine wpAny_call (codeAny_mono go fun r s' hq => ?_)
  cases r with
  | error e => exact tk e s' (L2N.XE.of_call I1 (fun cls d H' z => hW cls d H' z) hq)
  | ok fl =>
    cases fl with
    | ret u => exact I1.after hq
    | next => exact False.elim hq
    | brk => exact False.elim hq
    | cont => exact False.elim hq
end
end Cc
/-! ### x(lambda: .., e2, e3) -/
namespace Cc
open PySem PySem.Spec PyProof.Rows L2
open LamX (LamS CodeO lamEnv lamCx TabB Tabs ExtN)
/-- an expression that leaves all as it is -/
structure Quiet (X : Cx) (e : Expr) (t : L2.St → V → Prop) : Prop where
  run : ∀ {pins : List (Addr × Obj)} {s : Shared} {σ : L2.St} {H : Hp} {v : V} {E : Value → Shared → Prop} {Q : Value → Shared → Prop}, Inv X pins σ H s → t σ v → (∀ u tk, RelV v u → Q u { s with toks := tk }) → wpAny (model X.prog X.w) X.A (eval e X.env) Q E s
section
variable {X : Cx}
theorem quiet_int {n : Int} {j pos} : Quiet X (.Constant (.int n) j pos) (fun _ v => v = .int n) := ⟨fun {pins s σ H v E Q} I h q => by
  subst h
  exact wpAny_Constant_int (q _ _ ⟨_, rfl⟩)⟩
theorem quiet_str {n : Str} {j pos} : Quiet X (.Constant (.str n) j pos) (fun _ v => v = .str n) := ⟨fun {pins s σ H v E Q} I h q => by
  subst h
  exact wpAny_Constant_str (q _ _ ⟨_, rfl⟩)⟩
theorem quiet_var {i : Nat} {x : Str} {pos : Pos} (hN : X.N[i]? = some x) (hv : Vis X.env.scope x) (hd : (x == ("__debug__" : Str)) = false := by decide) (hcd : (x == ("__classdict__" : Str)) = false := by decide) : Quiet X (.Name x pos) (fun σ v => σ[i]? = some (some v)) :=
  ⟨fun {pins s σ H v E Q} I h q => by
    obtain ⟨m, hn, hl⟩ := I.loc
    obtain ⟨u, r, l⟩ := hl i x v hN h hv
    have fin : Q u s := q u s.toks r
    rcases l with ⟨hk, hm⟩ | ⟨hk, c, hc, hcell⟩
    · exact wpAny_Name (wpAny_loadName_local I.ok.kind hk hn hm fin) hd
    · rcases hk with hk | hk
      · exact wpAny_Name (wpAny_loadName_cell I.ok.kind hk hc hcell fin) hd
      · exact wpAny_Name (wpAny_loadName_free I.ok.kind hk hc hcell fin hcd) hd⟩
/-- the context of the def that is given the lambda -/
abbrev gotC (X : Cx) (Ng : List Str) (qg : Str) (sg : Scope) (g : Addr) (cdg : Value) (s : Shared) (H : Hp) (E : XK) : Cx := cxOf (L2N.CX X.prog X.w) X.prog X.w X.K X.mg X.base Ng qg sg g cdg X.A X.stack s H E
/-- a() within that def: the lambda at f does tl -/
def ActT (f c' : Addr) (q : Str) (W : WX) (tl : XK → Hp → VK → Prop) : TE := fun σZ HZ Q => σZ[0]? = some (some (.ref f)) ∧ HZ c' = some (CodeO c' q) ∧ ∃ Ech : XK, (∀ cls d H', Ech cls d H' → W cls d σZ H') ∧ tl Ech HZ Q
/-- what that def promises of any lambda -/
def Given (X : Cx) (Ng ps : List Str) (qg a : Str) (sg : Scope) (g : Addr) (cdg : Value) (bg : List Stmt) (k : Nat) (q : Str) (sp : (XK → Hp → VK → Prop) → Sp) : Prop :=
  ∀ (f c' : Addr) (s : Shared) (H : Hp) (Q : VK) (E : XK) (vs : List V) (tl : XK → Hp → VK → Prop),
    (∀ (W : WX) (pn : List (Addr × Obj)) (xe : Value → Shared → Prop) (p1 p2 : Pos), L2N.Takes ((gotC X Ng qg sg g cdg s H E).tr pn xe) W → PE ((gotC X Ng qg sg g cdg s H E).tr pn xe) (.Call (.Name a p1) [] [] p2) (ActT f c' q W tl)) →
    Room k (X.A.deeper (envOfC qg sg s.heap.objs.size g cdg)) → H c' = some (CodeO c' q) → sp tl vs H Q E → ∃ t, PSs (gotC X Ng qg sg g cdg s H E) bg t ∧ t { nx := fun _ H' => Q .non H', rt := Q } (L2.start Ng (.ref f :: vs)) H
def tGive (T : List (Addr × Str)) (E : XK) (t2 t3 : L2.St → V → Prop) (sp : (XK → Hp → VK → Prop) → Sp) (t : XK → TE) : TE := fun σ H Q => Tabs T H ∧ ∃ v2 v3, t2 σ v2 ∧ t3 σ v3 ∧ ∀ H1, ExtN H H1 → Tabs T H1 → sp (fun E' H' Q' => t E' σ H' Q') [v2, v3] H1 Q E
theorem pe_give {T : List (Addr × Str)} {sp : (XK → Hp → VK → Prop) → Sp} {x a a2 a3 : Str} {g c P : Addr} {k : Nat} {pg : Arguments} {bg : List Stmt} {sg : Scope} {dV kV doc pm cdv ct oc : Value} {an od : Option Addr} {osl : Array (Option Value)} {Ng : List Str} {E : XK}
    {params : Arguments} {body e2 e3 : Expr} {scope : Scope} {t : XK → TE} {t2 t3 : L2.St → V → Prop} {p lpos pos : Pos} (hg : Gl X x) (hm : X.mg x = some (.ref g)) (hk : PySem.W.keepIn X.K (.ref g) = true)
    (lk : X.K.lookup g = some ⟨oc, od, .func (PySem.W.fnOf x x pg bg sg dV kV doc pm an cdv ct), osl⟩) (hcg : PySem.W.codeIn X.K cdv x = true) (hb : L2.Binds X.K (PySem.W.fnOf x x pg bg sg dV kV doc pm an cdv ct) [a, a2, a3] []) (Sg : FnScope Ng [a, a2, a3] sg) (hNg : Ng[0]? = some a) (hva : Vis sg a)
    (hG : Given X Ng [a, a2, a3] x a sg g cdv bg k (X.env.qual ++ "<lambda>") sp) (hx : Passes (L2N.CX X.prog X.w) X E) (q2 : Quiet X e2 t2) (q3 : Quiet X e3 t3)
    (TB : TabB X.base X.mg c P) (hcode : X.env.code = .ref c) (hmT : (P, X.env.qual ++ "<lambda>") ∈ T) (hu : ∀ p ∈ T, p.1 = P → p.2 = X.env.qual ++ "<lambda>") (hr : Room (k + 2) X.A) (L : LamS X.env.scope scope) (hdef : defaultsOf params X.env = ([], []))
    (hbind : ∀ (q : Str) (cl : List (Str × Addr)) (pm cv ctv : Value), bindArgs (PySem.W.kla_fn "<lambda>" q params body scope cl pm cv ctv) ⟨[], []⟩ = pure [])
    (hbody : ∀ (A : Around) (outer : List Env) (s : Shared) (H : Hp) (E : XK) (f c' : Addr), Room k (A.deeper (lamEnv X scope s.heap.objs.size f c')) → PE (lamC X A outer s H E scope f c') body (t E))
    (hdb : (x == ("__debug__" : Str)) = false := by decide) (hd : (a == ("__debug__" : Str)) = false := by decide) (hcd : (a == ("__classdict__" : Str)) = false := by decide)
    (hse : backTo pos (starEach [e2, e3] X.env) = [(false, eval e2 X.env), (false, eval e3 X.env)] := by rfl) :
    PE X (.Call (.Name x p) [.Lambda params body scope lpos, e2, e3] [] pos) (tGive T E t2 t3 sp t) := by
  refine ⟨fun pins s σ H Q I ⟨hT, v2, v3, h2, h3, h⟩ => ?_⟩
  refine wpAny_Call_Name_kw (ld_glob I hg hm ?_ hdb)
  refine PySem.W.callWith_K (h₀ := X.base) I.ok.mod.kin hk ?_ (by rfl) (by rw [hse]; rfl)
  show wpAny _ _ (spliced ((false, eval (.Lambda params body scope lpos) X.env) :: backTo pos (starEach [e2, e3] X.env))) _ _ s
  rw [hse]
  refine Calls.spliced_cons (LamX.lam_make2 I TB hcode hmT hu hT hdef (L.has I.ok) fun f c' pm' ctv H1 s1 I1 eN T1 hf hfn hfr hco => ?_)
  refine Calls.spliced_cons (q2.run I1 h2 fun u2 tk2 r2 => ?_)
  have I2 := I1.tok tk2
  refine Calls.spliced_cons (q3.run I2 h3 fun u3 tk3 r3 => ?_)
  have I3 : Inv X pins σ H1 { s1 with toks := tk3 } := I2.tok tk3
  refine Calls.spliced_nil ⟨I3.kIn, ?_⟩
  have rc : codeAny (model X.prog X.w) X.A (.call (.ref g) ⟨[.ref f, u2, u3], []⟩) (CR (L2N.CX X.prog X.w) X.stack X.prog X.w H1 { s1 with toks := tk3 } Q E) { s1 with toks := tk3 } := by
    refine LamX.run_ofS (N := Ng) (ps := [a, a2, a3]) (us := [.ref f, u2, u3]) (vs := [.ref f, v2, v3]) lk hcg Sg hr I3.env0 (hb _ [.ref f, u2, u3] I3.kIn rfl) (.cons rfl (.cons r2 (.cons r3 .nil))) rfl fun hr' => ?_
    exact hG f c' { s1 with toks := tk3 } H1 Q E [v2, v3] (fun E' H' Q' => t E' σ H' Q') (fun W pn xe p1 p2 tk => pe_thunk (i := 0) I3 L hf hfn hfr (hbind _ _ _ _ _) tk hr' (fun A outer s H E hr2 => hbody A outer s H E f c' hr2) hNg hva hd hcd) (hr'.mono (Nat.le_succ k)) hco (h H1 eN T1)
  refine wpAny_call (codeAny_mono rc fun r s2 hq => ?_)
  cases r with
  | error e => exact hx pins σ H1 _ e s2 I3 hq
  | ok fl =>
    cases fl with
    | ret u => exact I3.after hq
    | next => exact False.elim hq
    | brk => exact False.elim hq
    | cont => exact False.elim hq
end
end Cc
/-! ### isinstance(e, ..) in an except suite -/
namespace Cc
open PySem PySem.Spec PyProof.Rows L2
def isV : D → Option Value
  | .ref a => some (.ref a)
  | .ty n => some (.type n)
  | _ => none
theorem isV_of {K : KT} {H : Hp} {v : V} {d : D} {cv : Value} (h : Dv K H v d) (e : isV d = some cv) : ∀ u, RelV v u → u = cv := fun u r => by
  cases h <;> cases e <;> exact r
/-- isinstance(e, c): e stands at a, its class is C -/
def dIsE (K : PySem.W.Frag) (a C : Addr) : DC := fun xs G R => match xs with
  | [.ref x, c] => x = a ∧ ∃ cv b, isV c = some cv ∧ PySem.W.kitOne K (.ref C) cv = some b ∧ R (.bl b) G
  | _ => False
theorem cd_isE {X : Cx} {a C : Addr} {oe : Obj} {pn : List (Addr × Obj)} (hC : ExcC X.K C) (hz : Zc (.ref C) none oe) (hf : ∃ vs, oe.data = .fields vs) : CD (X.suite a ((a, oe) :: pn)) (.builtin "isinstance") (dIsE X.K a C) :=
  ⟨_, call_isE hC hz hf, fun T x H d G R Q hr r q cr => by
    unfold dIsE at q
    split at q
    · obtain ⟨rfl, cv, b, e1, e2, q⟩ := q
      cases r with
      | cons r1 r =>
        cases r with
        | cons r2 r =>
          cases r
          cases r1
          exact ⟨_, cv, b, rfl, isV_of r2 e1, e2, cr _ _ _ _ (Up.refl H) hr (.bl b) q⟩
    · exact False.elim q⟩
/-- the class's facts, as a Bool of what is looked at -/
def excCB (K : PySem.W.Frag) (C : Addr) : Bool := He.eqO (PySem.W.findIn K (.ref C) "__getattribute__") (some (some (.builtin "BaseException.__getattribute__"))) && (He.eqO (PySem.W.findIn K (.ref C) "__getattr__") (some none) && (decide (PySem.W.subIn K (.ref C) (.type "BaseException") = some true) &&
  (PySem.W.hasDictIn K C && (He.eqO (PySem.W.findIn K (.ref C) "__class__") (some (some (.builtin "object.__class__"))) && (He.eqO (PySem.W.specialIn K (.builtin "object.__class__") "__get__") (some (some (.builtin "getset_descriptor.__get__"))) &&
  (decide (PySem.W.takesIn K (.builtin "object.__class__") = some true) && decide (PySem.W.mroIn K C (.type "object") = some true)))))))
theorem excC_of {K : PySem.W.Frag} {C : Addr} (h : excCB K C = true) : ExcC K C := by
  unfold excCB at h
  simp only [Bool.and_eq_true] at h
  obtain ⟨h1, h2, h3, h4, h5, h6, h7, h8⟩ := h
  exact ⟨He.eqO_ok h1, He.eqO_ok h2, of_decide_eq_true h3, h4, He.eqO_ok h5, He.eqO_ok h6, of_decide_eq_true h7, of_decide_eq_true h8⟩
theorem pd_never {X : Cx} {E : EK} {e : Expr} : PD X E e (fun _ _ _ _ => False) := ⟨⟨fun pins s σ H Q I ⟨_, _, _, _, _, _, h, _⟩ => h.elim⟩⟩
theorem hot_suite {X : Cx} {a : Addr} {cls : Value} {d : Option Addr} {oe : Obj} {pn : List (Addr × Obj)} (hz : L2N.Zn cls d oe) (hf : ∃ vs, oe.data = .fields vs) : L2H.HotC (X.suite a ((a, oe) :: pn)) := by
  obtain ⟨vs, e⟩ := hf
  exact ⟨(a, oe), ⟨rfl, vs, e, hz.2.2 vs e⟩, List.mem_cons_self⟩
/-- what is kept of a state that only grows -/
def Grow (H H' : Hp) : Prop := ∀ b o, H b = some o → H' b = some o
end Cc
/-! ### the law's _law_refused(lambda: .., word, 0), on data -/
namespace Cc
open PySem PySem.Spec PyProof.Rows L2
open LamX (LamS CodeO lamEnv lamCx TabB Tabs ExtN)
/-- the def that is given the lambda promises: it answers True of a lambda that raises C -/
def spRef (K : KT) (w : Str) (C : Addr) (tl : XK → Hp → VK → Prop) : Sp := fun vs H Q _ => (∃ v, vs = [.str w, v]) ∧ ∀ Q' : VK,
  tl (fun cls o H' => cls = .ref C ∧ o = none ∧ ∃ G', HRel K G' H' ∧ ∀ G2 H2, Sub G' G2 → Up H' H2 → HRel K G2 H2 → Q (.bl true) H2) H Q'
def dRefuse (dt : DE) (C : Addr) : DE := fun δ G R _ => dt δ G (fun _ _ => False) (fun cls o G' => cls = .ref C ∧ o = none ∧ ∀ G2, Sub G' G2 → R (.bl true) G2)
section
variable {X : Cx} {E : EK}
theorem pd_refuse {w x a a2 a3 : Str} {g c P C : Addr} {k : Nat} {pg : Arguments} {bg : List Stmt} {sg : Scope} {dV kV doc pm cdv ct oc : Value} {an od : Option Addr} {osl : Array (Option Value)} {Ng : List Str}
    {params : Arguments} {body : Expr} {scope : Scope} {dt : DE} {n : Int} {j1 j2} {p lpos pos p2 p3 : Pos} (hg : Gl X x) (hm : X.mg x = some (.ref g)) (hk : PySem.W.keepIn X.K (.ref g) = true)
    (lk : X.K.lookup g = some ⟨oc, od, .func (PySem.W.fnOf x x pg bg sg dV kV doc pm an cdv ct), osl⟩) (hcg : PySem.W.codeIn X.K cdv x = true) (hb : L2.Binds X.K (PySem.W.fnOf x x pg bg sg dV kV doc pm an cdv ct) [a, a2, a3] []) (Sg : FnScope Ng [a, a2, a3] sg) (hNg : Ng[0]? = some a) (hva : Vis sg a)
    (hG : Given X Ng [a, a2, a3] x a sg g cdv bg k (X.env.qual ++ "<lambda>") (spRef (kt X E) w C)) (hx : Passes (L2N.CX X.prog X.w) X E.1)
    (TB : TabB X.base X.mg c P) (hcode : X.env.code = .ref c) (hmT : (P, X.env.qual ++ "<lambda>") ∈ E.2) (hu : ∀ p ∈ E.2, p.1 = P → p.2 = X.env.qual ++ "<lambda>") (hr : Room (k + 2) X.A) (L : LamS X.env.scope scope) (hdef : defaultsOf params X.env = ([], []))
    (hbind : ∀ (q : Str) (cl : List (Str × Addr)) (pm cv ctv : Value), bindArgs (PySem.W.kla_fn "<lambda>" q params body scope cl pm cv ctv) ⟨[], []⟩ = pure [])
    (hbody : ∀ (A : Around) (outer : List Env) (s : Shared) (H : Hp) (E' : XK) (f c' : Addr), Room k (A.deeper (lamEnv X scope s.heap.objs.size f c')) → PD (lamC X A outer s H E' scope f c') (E', E.2) body dt)
    (hdb : (x == ("__debug__" : Str)) = false := by decide) (hd : (a == ("__debug__" : Str)) = false := by decide) (hcd : (a == ("__classdict__" : Str)) = false := by decide)
    (hse : backTo pos (starEach [.Constant (.str w) j1 p2, .Constant (.int n) j2 p3] X.env) = [(false, eval (.Constant (.str w) j1 p2) X.env), (false, eval (.Constant (.int n) j2 p3) X.env)] := by rfl) :
    PD X E (.Call (.Name x p) [.Lambda params body scope lpos, .Constant (.str w) j1 p2, .Constant (.int n) j2 p3] [] pos) (dRefuse dt C) := by
  refine ⟨imE (pe_give (T := E.2) (E := E.1) (t := fun E' => up (kt X E) E' dt) (sp := spRef (kt X E) w C) hg hm hk lk hcg hb Sg hNg hva hG hx quiet_str quiet_int TB hcode hmT hu hr L hdef hbind (fun A outer s H E' f c' hr' => (hbody A outer s H E' f c' hr').pe) hdb hd hcd hse) fun σ H Q ⟨δ, G, R, EX, sr, hG0, h, cr, cx⟩ => ?_⟩
  refine ⟨hG0.t, .str w, .int n, rfl, rfl, fun H1 ex tb => ⟨⟨_, rfl⟩, fun Q' => ?_⟩⟩
  have u1 := extN_up ex
  refine ⟨δ, G, _, _, sr.up u1, extN_h hG0 ex tb, h, fun v H' d G' _ _ _ z => z.elim, fun cls o H' G' u h' ⟨e1, e2, z⟩ => ⟨e1, e2, G', h', fun G2 H2 s u2 h2 => cr _ _ _ _ ((u1.trans u).trans u2) h2 (.bl true) (z G2 s)⟩⟩
theorem tkL {A : Around} {outer : List Env} {s : Shared} {H : Hp} {E' : XK} {scope : Scope} {f c' : Addr} : L2N.Takes (lamC X A outer s H E' scope f c') (fun cls d _ H => E' cls d H) := L2N.takes_of rfl rfl rfl rfl
theorem psL {A : Around} {outer : List Env} {s : Shared} {H : Hp} {E' : XK} {scope : Scope} {f c' : Addr} : Passes (L2N.CX X.prog X.w) (lamC X A outer s H E' scope f c') E' := L2N.passes_call tkL fun _ _ _ _ h => h
/-- pd_refuse, the def told by the head -/
theorem pd_refuseF {w x a a2 a3 : Str} {g c P C : Addr} {k : Nat} {pg : Arguments} {bg : List Stmt} {sg : Scope} {fd : FuncData} {Ng : List Str}
    {params : Arguments} {body : Expr} {scope : Scope} {dt : DE} {n : Int} {j1 j2} {p lpos pos p2 p3 : Pos} (F : FunD X.K x x pg bg sg [] [] g fd) (hm : X.mg x = some (.ref g)) (Sg : FnScope Ng [a, a2, a3] sg)
    (hbg : ∀ (kV doc pm : Value) (an : Option Addr) (cdv ct : Value) (us : List Value), us.length = 3 → bindArgs (PySem.W.fnOf x x pg bg sg .none kV doc pm an cdv ct) ⟨us, []⟩ = pure (([a, a2, a3] : List Str).zip us))
    (hG : ∀ cdg : Value, Given X Ng [a, a2, a3] x a sg g cdg bg k (X.env.qual ++ "<lambda>") (spRef (kt X E) w C)) (hx : Passes (L2N.CX X.prog X.w) X E.1)
    (TB : TabB X.base X.mg c P) (hcode : X.env.code = .ref c) (hmT : (P, X.env.qual ++ "<lambda>") ∈ E.2) (hu : ∀ p ∈ E.2, p.1 = P → p.2 = X.env.qual ++ "<lambda>") (hr : Room (k + 2) X.A) (L : LamS X.env.scope scope) (hdef : defaultsOf params X.env = ([], []))
    (hbind : ∀ (q : Str) (cl : List (Str × Addr)) (pm cv ctv : Value), bindArgs (PySem.W.kla_fn "<lambda>" q params body scope cl pm cv ctv) ⟨[], []⟩ = pure [])
    (hbody : ∀ (A : Around) (outer : List Env) (s : Shared) (H : Hp) (E' : XK) (f c' : Addr), Room k (A.deeper (lamEnv X scope s.heap.objs.size f c')) → PD (lamC X A outer s H E' scope f c') (E', E.2) body dt)
    (hg : Gl X x := by rfl) (hNg : Ng[0]? = some a := by rfl) (hva : Vis sg a := by first | exact .inl rfl | exact .inr (.inl rfl)) (hdb : (x == ("__debug__" : Str)) = false := by decide) (hd : (a == ("__debug__" : Str)) = false := by decide) (hcd : (a == ("__classdict__" : Str)) = false := by decide)
    (hse : backTo pos (starEach [.Constant (.str w) j1 p2, .Constant (.int n) j2 p3] X.env) = [(false, eval (.Constant (.str w) j1 p2) X.env), (false, eval (.Constant (.int n) j2 p3) X.env)] := by rfl) :
    PD X E (.Call (.Name x p) [.Lambda params body scope lpos, .Constant (.str w) j1 p2, .Constant (.int n) j2 p3] [] pos) (dRefuse dt C) := by
  have hb := F.bindsN (ps := [a, a2, a3]) hbg
  have kp := F.kp
  obtain ⟨oc, od, dV, kV, doc, pm, an, cdv, ct, osl, rfl, lk, hcd2, hD, _⟩ := F.ex
  exact pd_refuse hg hm kp lk hcd2 hb Sg hNg hva (hG cdv) hx TB hcode hmT hu hr L hdef hbind hbody hdb hd hcd hse
end
end Cc
/-! ### lists and dicts that are done with: read as values -/
namespace Cc
open PySem PySem.Spec PyProof.Rows L2
def delD (G : DH) (a : Addr) : DH := fun b => if b = a then none else G b
theorem delD_same {G : DH} {a : Addr} : delD G a a = none := if_pos rfl
theorem delD_ne {G : DH} {a b : Addr} (h : b ≠ a) : delD G a b = G b := if_neg h
theorem delD_updD {G : DH} {a : Addr} {c : C} (h : G a = none) : delD (updD G a c) a = G := by
  funext b
  unfold delD updD
  split
  · rename_i e; subst e; exact h.symm
  · rfl
theorem delD_put {G : DH} {a b : Addr} {c : C} (h : b ≠ a) : delD (updD G b c) a = updD (delD G a) b c := by
  funext x
  unfold delD updD
  by_cases h1 : x = a
  · subst h1
    simp [Ne.symm h]
  · simp [h1]
theorem updD_comm {G : DH} {a b : Addr} {c d : C} (h : a ≠ b) : updD (updD G a c) b d = updD (updD G b d) a c := by
  funext x
  unfold updD
  by_cases h1 : x = b
  · subst h1
    rw [if_pos rfl, if_neg (Ne.symm h), if_pos rfl]
  · rw [if_neg h1, if_neg h1]
theorem updD_id {G : DH} {a : Addr} {c : C} (h : G a = some c) : updD G a c = G := by
  funext x
  unfold updD
  split
  · rename_i e; subst e; exact h.symm
  · rfl
theorem Sub.del {G : DH} {a : Addr} : Sub (delD G a) G := fun b c h => by
  by_cases hb : b = a
  · subst hb; rw [delD_same] at h; cases h
  · rw [delD_ne hb] at h; exact h
section
variable {K : KT} {H H' : Hp} {G G' : DH} {a p : Addr} {c : C} {o o0 u : HO} {od : Obj}
theorem HRel.frz (h : HRel K G H) (e : H p = some u) (w : Wr u) : HRel K (delD G p) (upd H p (.frz od u)) := ⟨fun a c q => by
  by_cases hb : a = p
  · subst hb; rw [delD_same] at q; cases q
  · rw [delD_ne hb] at q
    exact (h a c q).stay (Up.put e w) (upd_ne hb), tabs_put h.t e w⟩
theorem HRel.dv_frz (h : HRel K G H) {l : List D} (q : G p = some (.lst l)) : ∃ u, H p = some u ∧ Wr u ∧ Mut (some u) ∧ ∀ od, Dv K (upd H p (.frz od u)) (.ref p) (.rol l) := by
  obtain ⟨xs, e, r⟩ := h p _ q
  exact ⟨_, e, trivial, trivial, fun od => .rol ⟨od, upd_same⟩ (r.up (Up.put e trivial))⟩
theorem HRel.dv_frzK (h : HRel K G H) {l : List (Key × D)} (q : G p = some (.dK l)) : ∃ u, H p = some u ∧ Wr u ∧ Mut (some u) ∧ ∀ od, Dv K (upd H p (.frz od u)) (.ref p) (.rod l) := by
  obtain ⟨xs, e, r⟩ := h p _ q
  exact ⟨_, e, trivial, trivial, fun od => .rod ⟨od, upd_same⟩ (DvK.of (r.up (Up.put e trivial)))⟩
end
/-! at the library's side -/
def tFrz (t : TE) : TE := fun σ H Q => t σ H fun v H1 => Q v H1 ∨ ∃ d u, H1 d = some u ∧ Mut (some u) ∧ ∀ od, Q v (upd H1 d (.frz od u))
theorem pe_frz {X : Cx} {e : Expr} {t : TE} (h : PE X e t) : PE X e (tFrz t) := ⟨fun pins s σ H Q I hw => thn (h.run pins s σ H _ I hw) fun v s1 ⟨x, H1, I1, r, q⟩ => by
  rcases q with q | ⟨d, u, e1, mu, q⟩
  · exact ⟨x, H1, I1, r, q⟩
  · obtain ⟨od, I2⟩ := I1.lock e1 mu
    exact ⟨x, _, I2, r, q od⟩⟩
def sFrz (t : TS) : TS := fun D σ H => t D σ H ∨ ∃ d u, H d = some u ∧ Mut (some u) ∧ ∀ od, t D σ (upd H d (.frz od u))
theorem ps_frz {X : Cx} {st : Stmt} {t : TS} (h : PS X st t) : PS X st (sFrz t) := ⟨fun pins s σ H D I hw => by
  rcases hw with hw | ⟨d, u, e1, mu, q⟩
  · exact h.run pins s σ H D I hw
  · obtain ⟨od, I2⟩ := I.lock e1 mu
    exact h.run pins s σ _ D I2 (q od)⟩
theorem pss_frz {X : Cx} {st : List Stmt} {t : TS} (h : PSs X st t) : PSs X st (sFrz t) := ⟨fun pins s σ H D I hw => by
  rcases hw with hw | ⟨d, u, e1, mu, q⟩
  · exact h.run pins s σ H D I hw
  · obtain ⟨od, I2⟩ := I.lock e1 mu
    exact h.run pins s σ _ D I2 (q od)⟩
/-- a statement behind whose plain end something is locked -/
def sFrzN (t : TS) : TS := fun D σ H => t { D with nx := fun σ' H1 => D.nx σ' H1 ∨ ∃ d u, H1 d = some u ∧ Mut (some u) ∧ ∀ od, D.nx σ' (upd H1 d (.frz od u)) } σ H
theorem ps_frzN {X : Cx} {st : Stmt} {t : TS} (h : PS X st t) : PS X st (sFrzN t) := ⟨fun pins s σ H D I hw => thn (h.run pins s σ H _ I hw) fun f s1 q => by
  cases f with
  | next =>
    obtain ⟨σ', H', I2, q⟩ := q
    rcases q with q | ⟨d, u, e1, mu, q⟩
    · exact ⟨σ', H', I2, q⟩
    · obtain ⟨od, I3⟩ := I2.lock e1 mu
      exact ⟨σ', _, I3, q od⟩
  | brk => exact q
  | cont => exact q
  | ret v => exact q⟩
/-! the readings -/
def fzv (R : DK) : DK := fun v G => match v with
  | .ref p => (match G p with
    | some (.lst l) => R (.rol l) (delD G p)
    | some (.dK kvs) => R (.rod kvs) (delD G p)
    | _ => R v G)
  | _ => R v G
def dFz (de : DE) : DE := fun δ G R EX => de δ G (fzv R) EX
section
variable {X : Cx} {E : EK} {e : Expr} {de : DE} {st : Stmt} {sts : List Stmt} {t : DSt}
theorem clo_fz {K : KT} {H : Hp} {Q : VK} {R : DK} (cr : CloR K H Q R) : CloR K H (fun v H1 => Q v H1 ∨ ∃ d u, H1 d = some u ∧ Mut (some u) ∧ ∀ od, Q v (upd H1 d (.frz od u))) (fzv R) := fun v H1 d G1 u1 h1 r1 q1 => by
  unfold fzv at q1
  split at q1
  · rename_i p
    split at q1
    · rename_i l e
      cases r1
      obtain ⟨u, e1, w, mu, r⟩ := h1.dv_frz e
      exact .inr ⟨p, u, e1, mu, fun od => cr _ _ _ _ (u1.trans (Up.put e1 w)) (h1.frz e1 w) (r od) q1⟩
    · rename_i l e
      cases r1
      obtain ⟨u, e1, w, mu, r⟩ := h1.dv_frzK e
      exact .inr ⟨p, u, e1, mu, fun od => cr _ _ _ _ (u1.trans (Up.put e1 w)) (h1.frz e1 w) (r od) q1⟩
    · exact .inl (cr _ _ _ _ u1 h1 r1 q1)
  · exact .inl (cr _ _ _ _ u1 h1 r1 q1)
theorem pd_frz (h : PD X E e de) : PD X E e (dFz de) := ⟨imE (pe_frz h.pe) fun σ H Q ⟨δ, G, R, EX, sr, hr, h, cr, cx⟩ => ⟨δ, G, _, EX, sr, hr, h, clo_fz cr, cx⟩⟩
/-- what is more is forgotten -/
def dFg (de : DE) : DE := fun δ G R EX => de δ G (frg R) EX
theorem pd_frg (h : PD X E e de) : PD X E e (dFg de) := ⟨imE h.pe fun σ H Q ⟨δ, G, R, EX, sr, hr, h, cr, cx⟩ => ⟨δ, G, _, EX, sr, hr, h, clo_frg cr, cx⟩⟩
theorem pd_imp {d2 : DE} (h : PD X E e de) (k : ∀ δ G R EX, d2 δ G R EX → de δ G R EX) : PD X E e d2 := ⟨imE h.pe fun σ H Q ⟨δ, G, R, EX, sr, hr, h, cr, cx⟩ => ⟨δ, G, R, EX, sr, hr, k _ _ _ _ h, cr, cx⟩⟩
theorem pds_imp {t2 : DSt} (h : PDS X E st t) (k : ∀ D δ G, t2 D δ G → t D δ G) : PDS X E st t2 := ⟨imS h.ps fun Dn σ H ⟨δ, G, DD, sr, hr, h, cn, ct, cb, cc, cx⟩ => ⟨δ, G, DD, sr, hr, k _ _ _ h, cn, ct, cb, cc, cx⟩⟩
/-- ahead of a statement a local list (dict) is read as a value from here on -/
def sFz (i : Nat) (t : DSt) : DSt := fun D δ G => match δ[i]? with
  | some (some (.ref p)) => (match G p with
    | some (.lst l) => t D (δ.set i (some (.rol l))) (delD G p)
    | some (.dK kvs) => t D (δ.set i (some (.rod kvs))) (delD G p)
    | _ => t D δ G)
  | _ => t D δ G
theorem SRel.reread {K : KT} {H : Hp} {σ : L2.St} {δ : DS} {i : Nat} {d d' : D} (h : SRel K H σ δ) (e : δ[i]? = some (some d)) (k : ∀ v, Dv K H v d → Dv K H v d') : SRel K H σ (δ.set i (some d')) := by
  refine ⟨by rw [List.length_set]; exact h.1, fun j e2 q => ?_⟩
  by_cases hb : i = j
  · subst hb
    rw [List.getElem?_set_self (by have := List.getElem?_eq_some_iff.mp e; exact this.1)] at q
    cases q
    obtain ⟨v, h1, h2⟩ := h.2 i d e
    exact ⟨v, h1, k v h2⟩
  · rw [List.getElem?_set_ne hb] at q
    exact h.2 j e2 q
theorem pds_frz (i : Nat) (h : PDS X E st t) : PDS X E st (sFz i t) := ⟨imS (ps_frz h.ps) fun Dn σ H ⟨δ, G, DD, sr, hr, h, cn, ct, cb, cc, cx⟩ => by
  unfold sFz at h
  split at h
  · rename_i p e
    split at h
    · rename_i l eG
      obtain ⟨u, e1, w, mu, r⟩ := hr.dv_frz eG
      refine .inr ⟨p, u, e1, mu, fun od => ?_⟩
      have uw : Up H (upd H p (.frz od u)) := Up.put e1 w
      exact ⟨_, _, DD, (sr.up uw).reread e (fun v h => by cases h; exact r od), hr.frz e1 w, h, cn.up uw, ct.up uw, cb.up uw, cc.up uw, cx.up uw⟩
    · rename_i l eG
      obtain ⟨u, e1, w, mu, r⟩ := hr.dv_frzK eG
      refine .inr ⟨p, u, e1, mu, fun od => ?_⟩
      have uw : Up H (upd H p (.frz od u)) := Up.put e1 w
      exact ⟨_, _, DD, (sr.up uw).reread e (fun v h => by cases h; exact r od), hr.frz e1 w, h, cn.up uw, ct.up uw, cb.up uw, cc.up uw, cx.up uw⟩
    · exact .inl ⟨δ, G, DD, sr, hr, h, cn, ct, cb, cc, cx⟩
  · exact .inl ⟨δ, G, DD, sr, hr, h, cn, ct, cb, cc, cx⟩⟩
theorem sFz_lst {i : Nat} {t : DSt} {D : DEnds} {δ : DS} {G : DH} {p : Addr} {l : List Cc.D} (e : δ[i]? = some (some (.ref p))) (eG : G p = some (.lst l)) (h : t D (δ.set i (some (.rol l))) (delD G p)) : sFz i t D δ G := by
  unfold sFz
  rw [e]
  dsimp only
  rw [eG]
  exact h
end
/-! ### a comprehension, its list read as a value; the list that grows is out of sight -/
section
variable {X : Cx} {pins : List (Addr × Obj)} {σ : L2.St} {H : Hp} {s : Shared} {d : Addr} {u : HO}
theorem lock2 (I : Inv X pins σ H s) (h : H d = some u) (mu : Mut (some u)) : ∃ od, Inv X pins σ (upd H d (.frz od (.frz od u))) s := by
  obtain ⟨od, I1⟩ := I.lock h mu
  have x := I1.hok d _ upd_same
  obtain ⟨e, x⟩ := x
  have ne1 : ∀ b y, H b = some (.own y) → b ≠ d := fun b y q z => by subst z; rw [h] at q; cases q; exact mu
  have ne2 : ∀ b xs, H b = some (.tup xs) → b ≠ d := fun b y q z => by subst z; rw [h] at q; cases q; exact mu
  have new : ObjOk X.prog X.w (upd H d (.frz od (.frz od u))) s.heap d (.frz od (.frz od u)) := by
    refine ⟨e, e, x.stay (fun b v _ q => q) (fun b q => ?_) fun b xs q => ?_⟩
    · by_cases hb : b = d
      · subst hb; rw [upd_same] at q; cases q
      · rw [upd_ne hb] at q ⊢; exact q
    · by_cases hb : b = d
      · subst hb; rw [upd_same] at q; cases q
      · rw [upd_ne hb] at q ⊢; exact q
  exact ⟨od, I.write (x := d) (e := d) (t' := s.toks) (h' := s.heap) (by rw [h]; exact mu) (.inl rfl) (fun b v _ q => q) ⟨od, e⟩ new⟩
theorem unlock2 {od : Obj} (I : Inv X pins σ H s) (h : H d = some (.frz od (.frz od u))) (hn : ∀ o' u', X.H_0 d ≠ some (.frz o' u')) : Inv X pins σ (upd H d u) s := by
  have neH : ∀ b o, H b = some o → (∀ o' u', o ≠ .frz o' u') → b ≠ d := fun b o e hne z => by
    rw [z, h] at e
    cases e
    exact hne _ _ rfl
  have neN : ∀ b, H b = none → b ≠ d := fun b e z => by rw [z, h] at e; cases e
  refine ⟨I.ok, I.os, I.bare, ⟨I.base.keep, I.base.slot, fun b o e n hx => ?_, I.base.there, fun b xs e => ?_, fun b o x e => ?_, fun b ps e => ?_⟩, I.loc, I.cell, ?_, fun x c e => ?_, fun p hp => ?_, fun b o e => ?_, I.len⟩
  · rw [upd_ne (neN b (I.base.free b o e n hx))]; exact I.base.free b o e n hx
  · have q := I.base.tups b xs e
    rw [upd_ne (neH b _ q (fun _ _ z => nomatch z))]; exact q
  · have q := I.base.frzs b o x e
    rw [upd_ne (fun z => by rw [z] at e; exact hn _ _ e)]; exact q
  · obtain ⟨m, q⟩ := I.base.tbls b ps e
    exact ⟨m, by rw [upd_ne (neH b _ q (fun _ _ z => nomatch z))]; exact q⟩
  · rw [upd_ne (neN _ I.free)]; exact I.free
  · rw [upd_ne (neN c (I.freeC x c e))]; exact I.freeC x c e
  · obtain ⟨e, n, r⟩ := I.pin p hp
    exact ⟨e, by rw [upd_ne (neN _ n)]; exact n, r⟩
  · by_cases hb : b = d
    · rw [hb, upd_same] at e
      cases e
      rw [hb]
      obtain ⟨_, _, x⟩ := I.hok d _ h
      exact x.stay (fun c v _ q => q) (fun c q => by rw [upd_ne (neH c _ q (fun _ _ z => nomatch z))]; exact q) fun c xs q => by rw [upd_ne (neH c _ q (fun _ _ z => nomatch z))]; exact q
    · rw [upd_ne hb] at e
      exact (I.hok b o e).stay (fun c v _ q => q) (fun c q => by rw [upd_ne (neH c _ q (fun _ _ z => nomatch z))]; exact q) fun c xs q => by rw [upd_ne (neH c _ q (fun _ _ z => nomatch z))]; exact q
end
def eL2 (d : Addr) (t : TE) : TE := fun σ H Q => ∃ u, H d = some u ∧ Mut (some u) ∧ ∀ od, t σ (upd H d (.frz od (.frz od u))) fun v H' => H' d = some (.frz od (.frz od u)) ∧ Q v (upd H' d u)
def tL2 (d : Addr) (t : TT) : TT := fun σ H Q => ∃ u, H d = some u ∧ Mut (some u) ∧ ∀ od, t σ (upd H d (.frz od (.frz od u))) fun v H' => H' d = some (.frz od (.frz od u)) ∧ Q v (upd H' d u)
def gL2 (d : Addr) (t : TG) : TG := fun v σ H Q => ∃ u, H d = some u ∧ Mut (some u) ∧ ∀ od, t v σ (upd H d (.frz od (.frz od u))) fun σ' H' => H' d = some (.frz od (.frz od u)) ∧ Q σ' (upd H' d u)
def eL (t : TE) : TE := fun σ H Q => ∃ d, eL2 d t σ H Q
def tL (t : TT) : TT := fun σ H Q => ∃ d, tL2 d t σ H Q
def gL (t : TG) : TG := fun v σ H Q => ∃ d, gL2 d t v σ H Q
section
variable {X : Cx} {e : Expr} {ifs : List Expr} {t : TE} {tt : TT} {g : TG}
theorem pe_L (h : PE X e t) : PE X e (eL t) := ⟨fun pins s σ H Q I ⟨d, u, hd, mu, hw⟩ => by
  obtain ⟨od, I1⟩ := lock2 I hd mu
  exact thn (h.run pins s σ _ _ I1 (hw od)) fun v s1 ⟨x, H1, I2, r, e2, q⟩ => ⟨x, _, unlock2 I2 e2 (I.nofrz hd mu), r, q⟩⟩
theorem pts_L (h : PTs X ifs tt) : PTs X ifs (tL tt) := ⟨fun pins s σ H Q I ⟨d, u, hd, mu, hw⟩ => by
  obtain ⟨od, I1⟩ := lock2 I hd mu
  exact thn (h.run pins s σ _ _ I1 (hw od)) fun v s1 ⟨H1, I2, e2, q⟩ => ⟨_, unlock2 I2 e2 (I.nofrz hd mu), q⟩⟩
theorem pg_L (h : PG X e g) : PG X e (gL g) := ⟨fun pins s σ H v u0 Q I r ⟨d, u, hd, mu, hw⟩ => by
  obtain ⟨od, I1⟩ := lock2 I hd mu
  exact thn (h.run pins s σ _ v u0 _ I1 r (hw od)) fun _ s1 ⟨σ', H1, I2, e2, q⟩ => ⟨σ', _, unlock2 I2 e2 (I.nofrz hd mu), q⟩⟩
end
section
variable {K : KT} {H H' H0 : Hp} {G : DH} {d : Addr} {xs : List V} {od : Obj}
theorem unl0 (e : H d = some (.frz od (.frz od (.lst xs)))) : Up0 H (upd H d (.lst xs)) := by
  refine ⟨fun a ys q => ?_, fun a o ys q => ?_, fun a o ys q => ?_⟩
  all_goals rw [upd_ne (fun z => by subst z; rw [e] at q; cases q)]; exact q
theorem unlT (e : H d = some (.frz od (.frz od (.lst xs)))) : ∀ a o ys, H a = some (.frz o (.tup ys)) → upd H d (.lst xs) a = some (.frz o (.tup ys)) := fun a o ys q => by
  rw [upd_ne (fun z => by subst z; rw [e] at q; cases q)]; exact q
theorem KVr.up0 {κ : Type} (u : Up0 H H') (hf : ∀ a o xs, H a = some (.frz o (.tup xs)) → H' a = some (.frz o (.tup xs))) {xs : List (κ × V)} {ys : List (κ × D)} (h : KVr K H xs ys) : KVr K H' xs ys :=
  Paired.mapP h fun _ _ q => ⟨q.1, q.2.up0 u hf⟩
theorem CRel.stay0 {a : Addr} {c : C} (u : Up0 H H') (hf : ∀ a o xs, H a = Option.some (HO.frz o (HO.tup xs)) → H' a = Option.some (HO.frz o (HO.tup xs))) (e : H' a = H a) (h : CRel K H a c) : CRel K H' a c := by
  cases c with
  | lst l => obtain ⟨xs, q, r⟩ := h; exact ⟨xs, e.trans q, r.up0 u hf⟩
  | dK l => obtain ⟨xs, q, r⟩ := h; exact ⟨xs, e.trans q, r.up0 u hf⟩
  | dT l => obtain ⟨xs, q, r⟩ := h; exact ⟨xs, e.trans q, r.up0 u hf⟩
  | ins cl fs => obtain ⟨dx, xs, q, r⟩ := h; exact ⟨dx, xs, e.trans q, r.up0 u hf⟩
  | xd l => obtain ⟨xs, q, r⟩ := h; exact ⟨xs, e.trans q, r.up0 u hf⟩
theorem CRel.noFrz {a : Addr} {c : C} (h : CRel K H a c) {o : Obj} {w : HO} (e : H a = Option.some (HO.frz o w)) : False := by
  cases c with
  | lst l => obtain ⟨xs, q, r⟩ := h; rw [e] at q; cases q
  | dK l => obtain ⟨xs, q, r⟩ := h; rw [e] at q; cases q
  | dT l => obtain ⟨xs, q, r⟩ := h; rw [e] at q; cases q
  | ins cl fs => obtain ⟨dx, xs, q, r⟩ := h; rw [e] at q; cases q
  | xd l => obtain ⟨xs, q, r⟩ := h; rw [e] at q; cases q
theorem HRel.noFrz (h : HRel K G H) {o : Obj} {w : HO} (e : H d = Option.some (HO.frz o w)) : G d = Option.none := by
  cases q : G d with
  | none => rfl
  | some c => exact (CRel.noFrz (h.c d c q) e).elim
theorem HRel.unl (h : HRel K G H) (e : H d = Option.some (HO.frz od (HO.frz od (HO.lst xs)))) : HRel K G (upd H d (.lst xs)) := ⟨fun a c q => by
  have ne : a ≠ d := fun z => by subst z; exact CRel.noFrz (h.c a c q) e
  exact CRel.stay0 (h := h.c a c q) (unl0 e) (unlT e) (upd_ne ne), fun x hx => by
  obtain ⟨ps, h1, h2, h3⟩ := h.t x hx
  refine ⟨ps, ?_, h2, fun pos cv z => ?_⟩
  · rw [upd_ne (fun z => by subst z; rw [e] at h1; cases h1)]; exact h1
  · obtain ⟨c0, e1, e2⟩ := h3 pos cv z
    exact ⟨c0, e1, by rw [upd_ne (fun z => by subst z; rw [e] at e2; cases e2)]; exact e2⟩⟩
/-- out of sight: another thing at d -/
theorem HRel.hid (h : HRel K G H) (n : G d = Option.none) {u o : HO} (e : H d = some u) (w : Wr u) : HRel K G (upd H d o) := ⟨fun a c q => by
  have ne : a ≠ d := fun z => by subst z; rw [n] at q; cases q
  exact (h a c q).stay (Up.put e w) (upd_ne ne), tabs_put h.t e w⟩
/-- from ahead of d's making to behind its unlocking -/
theorem Up.unl (u : Up H0 H) (n : H0 d = Option.none) : Up H0 (upd H d (.lst xs)) := by
  refine ⟨fun a ys q => ?_, fun a o w q => ?_, fun a c q => ?_⟩
  · rw [upd_ne (ne_of_none q n)]; exact u.tups _ _ q
  · rw [upd_ne (ne_of_none q n)]; exact u.frzs _ _ _ q
  · rw [upd_ne (ne_of_none q n)]; exact u.code _ _ q
theorem SRel.up0 {σ : L2.St} {δ : DS} (u : Up0 H H') (hf : ∀ a o xs, H a = some (.frz o (.tup xs)) → H' a = some (.frz o (.tup xs))) (h : SRel K H σ δ) : SRel K H' σ δ := ⟨h.1, fun i d e => by
  obtain ⟨v, a, b⟩ := h.2 i d e
  exact ⟨v, a, b.up0 u hf⟩⟩
end
def goLcF (ok : DH → Prop) (g : DG) (tt : DT) (te : DE) (k : List D → DH → Prop) (δ : DS) : List D → List D → DH → Prop
  | acc, [], G => ok G ∧ k acc G
  | acc, x :: xs, G => ok G ∧ g x δ G (fun δ2 G2 => tt δ2 G2 (fun b G3 => if b = true then te δ2 G3 (fun y G4 => acc.length < sizeLine ∧ goLcF ok g tt te k δ (acc ++ [y]) xs G4) noX else goLcF ok g tt te k δ acc xs G3) noX) noX
def dLcF (di : DI) (g : DG) (tt : DT) (te : DE) (vs : List Nat) : DE := fun δ G R EX => di δ G (fun l ok G1 => goLcF ok g tt te (fun acc G => R (.rol acc) G) (wipeD δ vs) [] l G1) EX
theorem ct_L {vs : List Nat} {g : TG} (h : CT vs g) : CT vs (gL g) := fun v σ H Q ⟨d, u, e, mu, q⟩ => ⟨d, u, e, mu, fun od => by
  have z := h _ _ _ _ (q od)
  have m : ∀ {P P' : L2.St → Hp → Prop}, (∀ a b, P a b → P' a b) → P = P' ∨ True := fun _ => .inr trivial
  have e2 : (fun σ2 H2 => wipe σ2 vs = wipe σ vs ∧ H2 d = some (.frz od (.frz od u)) ∧ Q σ2 (upd H2 d u)) = (fun σ' H' => H' d = some (.frz od (.frz od u)) ∧ wipe σ' vs = wipe σ vs ∧ Q σ' (upd H' d u)) := by
    funext a b
    exact propext ⟨fun ⟨a, b, c⟩ => ⟨b, a, c⟩, fun ⟨a, b, c⟩ => ⟨b, a, c⟩⟩
  rw [e2] at z
  exact z⟩
def DvStay (K : KT) (H H' : Hp) : Prop := ∀ v d, Dv K H v d → Dv K H' v d
/-- from a state with the list at Z in the open to another one -/
structure Past (K : KT) (Z : Addr) (xs : List V) (H H' : Hp) : Prop where
  up : ∀ H0, Up H0 H → H0 Z = none → Up H0 H'
  at_ : H' Z = some (.lst xs)
  dv : ∀ v d, Dv K H v d → Dv K H' v d
theorem past {K : KT} {Z : Addr} {xs : List V} {H H1 : Hp} {od : Obj} (e : H Z = some (.lst xs)) (u : Up (upd H Z (.frz od (.frz od (.lst xs)))) H1) : H1 Z = some (.frz od (.frz od (.lst xs))) ∧ Past K Z xs H (upd H1 Z (.lst xs)) := by
  have uw : Up H (upd H Z (.frz od (.frz od (.lst xs)))) := Up.put e trivial
  have e2 := u.frzs _ _ _ (upd_same (H := H) (a := Z) (o := .frz od (.frz od (.lst xs))))
  exact ⟨e2, fun H0 u0 n0 => Up.unl ((u0.trans uw).trans u) n0, upd_same, fun v d z => ((z.up uw).up u).up0 (unl0 e2) (unlT e2)⟩
theorem Past.dvl {K : KT} {Z : Addr} {xs : List V} {H H' : Hp} (p : Past K Z xs H H') : ∀ {vs : List V} {ds : List D}, DvL K H vs ds → DvL K H' vs ds
  | _, _, .nil => .nil
  | _, _, .cons h r => .cons (p.dv _ _ h) (p.dvl r)
theorem wg_L {K : KT} {g : DG} {g0 : TG} (lg : ∀ v σ H Q, upG K noE g v σ H Q → g0 v σ H Q) {Z : Addr} {xs : List V} {v : V} {d : D} {σ : L2.St} {δ : DS} {H : Hp} {G : DH} {R : DS → DH → Prop} {Q : L2.St → Hp → Prop} (e : H Z = some (.lst xs)) (n : G Z = none)
    (dv : Dv K H v d) (sr : SRel K H σ δ) (hr : HRel K G H) (h : g d δ G R noX)
    (k : ∀ σ' H' δ' G', Past K Z xs H H' → SRel K H' σ' δ' → HRel K G' H' → G' Z = none → R δ' G' → Q σ' H') : gL g0 v σ H Q := by
  refine ⟨Z, _, e, trivial, fun od => lg _ _ _ _ ?_⟩
  have uw : Up H (upd H Z (.frz od (.frz od (.lst xs)))) := Up.put e trivial
  refine ⟨d, δ, G, R, noX, dv.up uw, sr.up uw, hr.hid n e trivial, h, fun σ' H' δ' G' u s2 h2 q => ?_, CloX.no⟩
  obtain ⟨e2, p⟩ := past (K := K) e u
  exact ⟨e2, k _ _ _ _ p (s2.up0 (unl0 e2) (unlT e2)) (h2.unl e2) (h2.noFrz e2) q⟩
theorem wt_L {K : KT} {tt : DT} {Z : Addr} {xs : List V} {σ : L2.St} {δ : DS} {H : Hp} {G : DH} {R : Bool → DH → Prop} {Q : Bool → Hp → Prop} (e : H Z = some (.lst xs)) (n : G Z = none)
    (sr : SRel K H σ δ) (hr : HRel K G H) (h : tt δ G R noX)
    (k : ∀ b H' G', Past K Z xs H H' → SRel K H' σ δ → HRel K G' H' → G' Z = none → R b G' → Q b H') : tL (upT K noE tt) σ H Q := by
  refine ⟨Z, _, e, trivial, fun od => ?_⟩
  have uw : Up H (upd H Z (.frz od (.frz od (.lst xs)))) := Up.put e trivial
  refine ⟨δ, G, R, noX, sr.up uw, hr.hid n e trivial, h, fun b H' G' u h2 q => ?_, CloX.no⟩
  obtain ⟨e2, p⟩ := past (K := K) e u
  exact ⟨e2, k _ _ _ p (((sr.up uw).up u).up0 (unl0 e2) (unlT e2)) (h2.unl e2) (h2.noFrz e2) q⟩
theorem we_L {K : KT} {te : DE} {Z : Addr} {xs : List V} {σ : L2.St} {δ : DS} {H : Hp} {G : DH} {R : DK} {Q : VK} (e : H Z = some (.lst xs)) (n : G Z = none)
    (sr : SRel K H σ δ) (hr : HRel K G H) (h : te δ G R noX)
    (k : ∀ v d H' G', Past K Z xs H H' → Dv K H' v d → HRel K G' H' → G' Z = none → R d G' → Q v H') : eL (up K noE te) σ H Q := by
  refine ⟨Z, _, e, trivial, fun od => ?_⟩
  have uw : Up H (upd H Z (.frz od (.frz od (.lst xs)))) := Up.put e trivial
  refine ⟨δ, G, R, noX, sr.up uw, hr.hid n e trivial, h, fun v H' d G' u h2 r q => ?_, CloX.no⟩
  obtain ⟨e2, p⟩ := past (K := K) e u
  exact ⟨e2, k _ _ _ _ p (r.up0 (unl0 e2) (unlT e2)) (h2.unl e2) (h2.noFrz e2) q⟩
theorem up_lcF {E : XK} {di : DI} {g : DG} {dA : DT} {de : DE} {vs : List Nat} {g0 : TG} {K : KT} (cg : CT vs g0) (lg : ∀ v σ H Q, upG K noE g v σ H Q → g0 v σ H Q) {σ : L2.St} {H : Hp} {Q : VK} : up K E (dLcF di g dA de vs) σ H Q → tLc (upI K E di) (gL g0) (tL (upT K noE dA)) (eL (up K noE de)) vs σ H (fun v H1 => Q v H1 ∨ ∃ d u, H1 d = some u ∧ Mut (some u) ∧ ∀ od, Q v (upd H1 d (.frz od u))) := fun ⟨δ, G, R, EX, sr, hr, h, cr, cx⟩ => by
  refine ⟨δ, G, _, EX, sr, hr, h, fun J l ok H0 G0 u0 h0 so q0 => ?_, cx⟩
  intro Z hZ
  have sr0 := sr.up u0
  have uZ : Up H0 (upd H0 Z (.lst [])) := Up.new hZ
  refine ⟨fun i m H => m = l.length - i ∧ i ≤ l.length ∧ ∃ G acc xs, HRel K G H ∧ Up H0 H ∧ G Z = none ∧ H Z = some (.lst xs) ∧ DvL K H xs acc ∧ goLcF ok g dA de (fun acc G => R (.rol acc) G) (wipeD δ vs) acc (l.drop i) G,
    ⟨l.length, by simp, Nat.zero_le _, G0, [], [], h0.new0 hZ, uZ, h0.none hZ, upd_same, .nil, by simpa using q0⟩, ?_⟩
  rintro i m H1 ⟨rfl, hi, G1, acc, xs, h1, u1, n1, e1, r1, q1⟩
  by_cases hlt : i < l.length
  · rw [List.drop_eq_getElem_cons hlt] at q1
    obtain ⟨k1, q1⟩ := q1
    have h1Z : HRel K (updD G1 Z (.lst acc)) H1 := ⟨fun a c q => by
      by_cases hb : a = Z
      · subst hb; rw [updD_same] at q; cases q; exact ⟨xs, e1, r1⟩
      · rw [updD_ne hb] at q; exact h1.c a c q, h1.t⟩
    obtain ⟨gx, yx⟩ := (so.at_ i H1 _ u1 h1Z (so.mono _ _ (Sub.new n1) k1)).1 hlt
    let NX : Hp → Prop := fun H2 => ∃ G2 acc xs, HRel K G2 H2 ∧ Up H0 H2 ∧ G2 Z = none ∧ H2 Z = some (.lst xs) ∧ DvL K H2 xs acc ∧ goLcF ok g dA de (fun acc G => R (.rol acc) G) (wipeD δ vs) acc (l.drop (i + 1)) G2
    refine .inr ⟨gx, NX, fun H2 ⟨G2, a, b, c, d⟩ => ⟨l.length - (i + 1), by omega, rfl, hlt, G2, a, b, c, d⟩, fun x H2 y => ?_⟩
    obtain ⟨d, ed, u2, h2Z, r2⟩ := yx x H2 y
    rw [List.getElem?_eq_getElem hlt] at ed
    cases ed
    obtain ⟨xs2, e2, rx2⟩ := h2Z.c Z _ updD_same
    have h2 : HRel K G1 H2 := h2Z.sub (Sub.new n1)
    have u12 := u1.trans u2
    have s2 : SRel K H2 (L2.wipe σ vs) (wipeD δ vs) := (sr0.up u12).wipe vs
    have cw := ct_L cg x (wipe σ vs) H2 (fun σ3 H3 => tL (upT K noE dA) σ3 H3 fun b H4 => if b = true then eL (up K noE de) σ3 H4 fun y H5 => ∃ acc, H5 Z = some (.lst acc) ∧ acc.length < sizeLine ∧ NX (upd H5 Z (.lst (acc ++ [y]))) else NX H4)
      (wg_L lg e2 n1 r2 s2 h2 q1 fun σ3 H3 δ3 G3 p3 s3 h3 n3 q3 => wt_L p3.at_ n3 s3 h3 q3 fun b H4 G4 p4 s4 h4 n4 q4 => ?_)
    · rw [wipe_wipe] at cw
      exact cw
    · cases b with
      | true =>
        rw [if_pos rfl] at q4
        refine iteT ?_
        refine we_L p4.at_ n4 s4 h4 q4 fun y dy H5 G5 p5 r5 h5 n5 q5 => ?_
        have uw : Up H5 (upd H5 Z (.lst (xs2 ++ [y]))) := Up.put p5.at_ trivial
        have r5L : DvL K H5 xs2 acc := p5.dvl (p4.dvl (p3.dvl rx2))
        refine ⟨xs2, p5.at_, by rw [r5L.length]; exact q5.1, G5, acc ++ [dy], xs2 ++ [y], h5.hid n5 p5.at_ trivial, ?_, n5, upd_same, (r5L.up uw).append (.cons (r5.up uw) .nil), q5.2⟩
        exact (p5.up _ (p4.up _ (p3.up _ u12 hZ) hZ) hZ).trans uw
      | false =>
        rw [if_neg Bool.false_ne_true] at q4
        refine iteF ?_
        exact ⟨G4, acc, xs2, h4, p4.up _ (p3.up _ u12 hZ) hZ, n4, p4.at_, p4.dvl (p3.dvl rx2), q4⟩
  · have e : i = l.length := by omega
    subst e
    rw [List.drop_length] at q1
    refine .inl ⟨(so.at_ _ H1 G1 u1 h1 q1.1).2 (Nat.le_refl _), .inr ⟨Z, _, e1, trivial, fun od => ?_⟩⟩
    have uw : Up H1 (upd H1 Z (.frz od (.lst xs))) := Up.put e1 trivial
    exact cr _ _ _ _ ((u0.trans u1).trans uw) (h1.hid n1 e1 trivial) (.rol ⟨od, upd_same⟩ (r1.up uw)) q1.2
section
variable {X : Cx} {E : EK} {pos : Pos}
theorem pd_lcF {elt tg iter : Expr} {ifs : List Expr} {scope : Scope} {own : List (Str × Nat)} {di : DI} {g : DG} {tt : DT} {te : DE} (hc : X.calm = true) (hN : X.N.Nodup) (hi : PDI X E tg iter di) (ok : BlkOk X.N X.env.scope scope own)
    (B : BlkP X E scope (own.map (·.2)) tg elt ifs g tt te) (hs : ∀ x, foldedSetIterable iter X.env x = pure x := by intro _; rfl) : PD X E (.ListComp elt [⟨tg, iter, ifs, 0⟩] scope pos) (dLcF di g tt te (own.map (·.2))) := by
  obtain ⟨g0, c0, l0, p0⟩ := B.g
  exact ⟨imE (pe_frz (pe_lc hc hN hi.pi ok (fun s H C cl fp => pg_L (p0 s H C cl fp)) (fun s H C cl fp => pts_L (B.t s H C cl fp).ts) (fun s H C cl fp => pe_L (B.e s H C cl fp).pe) hs)) fun _ _ _ => up_lcF c0 l0⟩
theorem pds_setLcF {i : Nat} {y : Str} {py spos : Pos} {elt tg iter : Expr} {ifs : List Expr} {scope : Scope} {own : List (Str × Nat)} {di : DI} {g : DG} {tt : DT} {te : DE} (hc : X.calm = true) (hN : X.N.Nodup) (hy : X.N[i]? = some y) (hyl : X.env.scope.names.lookup y = some .local)
    (hsw : swapsWith (.ListComp elt [⟨tg, iter, ifs, 0⟩] scope pos) (some (.Name y py)) spos.line X.env = pure true) (hi : PDI X E tg iter di) (ok : BlkOk X.N X.env.scope scope own)
    (B : BlkP X E scope (own.map (·.2)) tg elt ifs g tt te) (hs : ∀ x, foldedSetIterable iter X.env x = pure x := by intro _; rfl) : PDS X E (.Assign [.Name y py] (.ListComp elt [⟨tg, iter, ifs, 0⟩] scope pos) spos) (sAsg (dLcF di g tt te (own.map (·.2))) (gN i)) := by
  obtain ⟨g0, c0, l0, p0⟩ := B.g
  refine ⟨imS (ps_frzN (ps_setLc (te := eL (up (kt X E) noE te)) (tt := tL (upT (kt X E) noE tt)) hc hN hy hyl hsw hi.pi ok (fun s H C cl fp => pg_L (p0 s H C cl fp)) (fun s H C cl fp => pts_L (B.t s H C cl fp).ts) (fun s H C cl fp => pe_L (B.e s H C cl fp).pe) hs)) fun Dn σ H ⟨δ, G, DD, sr, hr, h, cn, ct, cb, cc, cx⟩ => ?_⟩
  have z := up_lcF (Q := fun v H1 => Dn.nx (σ.set i (some v)) H1) c0 l0 ⟨δ, G, _, DD.ex, sr, hr, h, fun v H1 d G1 u1 h1 r1 q1 => cn _ _ _ _ u1 ((sr.up u1).set r1) h1 q1, cx⟩
  exact z
end
end Cc
/-! ### operators whose new lists are read as values; sorting of lists and tuples -/
namespace PySem.W
open PySem PySem.Spec PyProof.Rows
section
variable {prog : Program} {w : World} {A : Around} {E : Value → Shared → Prop} {s : Shared}
theorem cc_collect {T : String} {l : Addr} {o : Obj} {vs : List Value} {n : Nat} {Q : List Value → Shared → Prop} (hT : T = "list" ∨ T = "tuple") (ho : s.heap.get? l = some o) (hc : o.cls = .type T) (hd : o.data = .seq vs.toArray n)
    (h : Q vs { s with heap := (s.heap.push (seqObj "list" #[] 0)).update s.heap.objs.size (Obj.mapSeq (· ++ vs.toArray)) }) (hsz : vs.length ≤ sizeLine) :
    wpAny (model prog w) A (collect (.ref l)) Q E s := by
  unfold collect
  refine wpAny_bind (wpAny_runValue (codeAny_builtin entry_proto_collect' ?_))
  show wpAny _ _ (do again (.builtin "list.__iadd__" ⟨[← newList [], .ref l], []⟩)) _ _ s
  refine wpAny_bind (wpAny_newList (wpAny_pure ⟨Code.quiet_builtin _ (by decide +kernel), codeAny_builtin entry_list_iadd' ?_⟩))
  show wpAny _ _ (Builtin.List.listExtendWith (.ref s.heap.objs.size) (.ref l) (.ref s.heap.objs.size)) _ _ { s with heap := s.heap.push (seqObj "list" #[] 0) }
  unfold Builtin.List.listExtendWith
  have ho' : (s.heap.push (seqObj "list" #[] 0)).get? l = some o := Heap.get?_push_of_some _ ho
  refine wpAny_bind (wpAny_typeOf (T := T) ⟨o, ho', hc⟩ ?_)
  rw [if_pos (by rcases hT with rfl | rfl <;> simp)]
  refine wpAny_bind (listItems_at ho' hd ?_)
  refine wpAny_bind (listItems_at (xs := #[]) (n := 0) (Heap.get?_push_size _ rfl) rfl ?_)
  rw [if_neg (by simp)]
  refine wpAny_bind (listUpdate_at (xs := #[]) (n := 0) (Heap.get?_push_size _ rfl) rfl ?_ (Nat.zero_le _) (by show (#[] ++ vs.toArray).size ≤ sizeLine + 1; simp only [Array.size_append, List.size_toArray, List.length_nil]; omega))
  refine wpAny_pure ?_
  show wpAny (model prog w) A (do
      let o ← load s.heap.objs.size
      match o.data with
      | .seq xs _ => pure xs.toList
      | _ => unsupported "internal:collect") Q E { s with heap := (s.heap.push (seqObj "list" #[] 0)).update s.heap.objs.size (Obj.mapSeq (· ++ vs.toArray)) }
  refine wpAny_bind (wpAny_load (get?_update_seq (Heap.get?_push_size _ rfl) _) ?_)
  show wpAny _ _ (pure ((#[] : Array Value) ++ vs.toArray).toList) Q E _
  rw [show ((#[] : Array Value) ++ vs.toArray).toList = vs by simp]
  exact wpAny_pure h
theorem cc_sorted {T : String} {l : Addr} {o : Obj} {vs : List Value} {n : Nat} {kw : List (Str × Value)} {Q : Value → Shared → Prop} (hT : T = "list" ∨ T = "tuple") (ho : s.heap.get? l = some o) (hc : o.cls = .type T) (hd : o.data = .seq vs.toArray n)
    (hL : vs.length ≤ sizeLine) (ha1 : argsOk "sorted" ⟨[.ref l], kw⟩) (ha2 : ∀ x, argsOk "list.sort" ⟨[.ref x], kw⟩)
    (body : ∀ E' : Value → Shared → Prop, wpAny (model prog w) A.in1.in1 (Builtin.«list.sort» ⟨[.ref (s.heap.objs.size + 1)], kw⟩) (fun f s' => f = .done (.ret .none) ∧ Q (.ref (s.heap.objs.size + 1)) s') E' { s with heap := copyHeap s.heap vs }) :
    wpAny (model prog w) A (call (.builtin "sorted") [.ref l] kw) Q E s := by
  refine call_function_entry_kw kind_sorted plain_sorted entry_sorted ha1 ?_
  unfold Builtin.«sorted»
  refine wpAny_bind (m := checkCount "sorted" 1 1 _) (wpAny_pure ?_)
  refine wpAny_bind (cc_collect hT ho hc hd ?_ hL)
  refine wpAny_bind (wpAny_newList ?_ hL)
  have hsz : ((s.heap.push (seqObj "list" #[] 0)).update s.heap.objs.size (Obj.mapSeq (· ++ vs.toArray))).objs.size = s.heap.objs.size + 1 := by
    rw [Heap.size_update, size_push']
  show wpAny _ _ _ _ _ { s with heap := copyHeap s.heap vs }
  rw [hsz]
  refine wpAny_bind (wpAny_holding (wpAny_call_entry_kw slot_list_sort ⟨_, copyHeap_at s.heap vs, rfl⟩ entry_list_sort ?body (ha2 _)))
  case body =>
    show wpAny (model prog w) A.in1.in1 (Builtin.«list.sort» ⟨[.ref (s.heap.objs.size + 1)], kw⟩) _ _ _
    refine wpAny_mono (body _) (fun f s' hf => ?_) fun _ _ e => e
    obtain ⟨rfl, hq⟩ := hf
    exact ⟨_, rfl, wpAny_pure ⟨_, rfl, hq⟩⟩
variable {β : Type} {vs : List Value} {bs : List β} {R : Value → β → Prop} {enc : β → PyData}
theorem cc_sorted_data {T : String} {l : Addr} {o : Obj} {n : Nat} {Q : Value → Shared → Prop} (hT : T = "list" ∨ T = "tuple") (ho : s.heap.get? l = some o) (hc : o.cls = .type T) (hd : o.data = .seq vs.toArray n) (e : EachIs R vs bs) (er : EachIs (fun v b => ∃ as, Reads s.heap v (enc b) as) vs bs) (hal : AllAlike (bs.map enc)) (hk : Sortable (bs.map enc)) (hL : bs.length ≤ sizeLine)
    (hu : ∀ b, b ∈ bs → A.units + 2 + (enc b).depth < cLine) (h : ∀ out, out.length = bs.length → EachIs R out (bs.mergeSort (dataLe false enc)) → Q (.ref (s.heap.objs.size + 1)) { s with heap := sortedAll s.heap vs (List.toArray out) }) :
    wpAny (model prog w) A (call (.builtin "sorted") [.ref l]) Q E s := by
  have er' : EachIs (fun v b => ∃ as, Reads (sortingHeap (copyHeap s.heap vs) (s.heap.objs.size + 1) vs) v (enc b) as) vs bs := er.mono fun _ _ ⟨as, r⟩ => ⟨as, PyProof.Rows.Reads.keeps (fun _ _ => sorting_copy_old) r⟩
  have S := SortsAt.data (prog := prog) (w := w) (A := A.in1.in1) (s := { s with heap := sortingHeap (copyHeap s.heap vs) (s.heap.objs.size + 1) vs }) (each_map (R := fun v d => ∃ as, Reads (sortingHeap (copyHeap s.heap vs) (s.heap.objs.size + 1) vs) v d as) enc er') hal hk (bound_map hu)
  refine cc_sorted hT ho hc hd (by rw [e.length]; exact hL) (args_sorted1 _) (fun _ => args_list_sort _) fun _ => list_sort_vals (s := { s with heap := copyHeap s.heap vs }) (copyHeap_at s.heap vs) S (by rw [e.length]; exact hL) ⟨rfl, ?_⟩
  exact h _ (by rw [sortVals_length false rfl]; exact e.length) (sortVals_data false e er' hal)
theorem cc_sorted_key {T : String} {l : Addr} {o : Obj} {n : Nat} {f : Value} {kw : List (Str × Value)} {b : Bool} {Q : Value → Shared → Prop} (k : β → PyData) (hT : T = "list" ∨ T = "tuple") (ho : s.heap.get? l = some o) (hc : o.cls = .type T) (hd : o.data = .seq vs.toArray n) (e : EachIs R vs bs) (hal : AllAlike (bs.map k)) (hk : Sortable (bs.map k)) (hL : bs.length ≤ sizeLine)
    (hu : ∀ x, x ∈ bs → A.units + 2 + (k x).depth < cLine) (ha1 : argsOk "sorted" ⟨[.ref l], kw⟩) (ha2 : ∀ x, argsOk "list.sort" ⟨[.ref x], kw⟩) (ht : ∀ x, Builtin.«list.sort» ⟨[.ref x], kw⟩ = ksk_tree x f b)
    (turn : ∀ (v : Value) (x : β), R v x → x ∈ bs → ∀ (h : Heap) (tk : Nat), (∀ b o, s.heap.get? b = some o → h.get? b = some o) →
      wpAny (model prog w) A.in1.in1 (call f [v]) (KeyPure (k x) { s with heap := h, toks := tk }) (fun _ _ => False) { s with heap := h, toks := tk })
    (h : ∀ out c h' tk, (∀ b o, s.heap.get? b = some o → h'.get? b = some o) → s.heap.get? (s.heap.objs.size + 1) = none → h'.get? (s.heap.objs.size + 1) = some (seqObj "list" (List.toArray out) c) → out.length = bs.length → EachIs R out (bs.mergeSort (dataLe b k)) →
      Q (.ref (s.heap.objs.size + 1)) { s with heap := h', toks := tk }) :
    wpAny (model prog w) A (call (.builtin "sorted") [.ref l] kw) Q E s := by
  have fresh : s.heap.get? (s.heap.objs.size + 1) = none := Heap.get?_none_of_le (Nat.le_succ _)
  have up : ∀ {g : Heap}, KeepsBut (s.heap.objs.size + 1) (copyHeap s.heap vs) g → ∀ b o, s.heap.get? b = some o → g.get? b = some o := fun {g} kp b o q =>
    kp b o (Nat.ne_of_lt (Nat.lt_succ_of_lt (Heap.lt_size q))) (copyHeap_old q)
  refine cc_sorted hT ho hc hd (by rw [e.length]; exact hL) ha1 ha2 fun E' => ?_
  rw [ht]
  refine keyH_tree (kz := bs.map k) (s := { s with heap := copyHeap s.heap vs }) (copyHeap_at s.heap vs) (by rw [List.length_map]; exact e.length.symm) (by rw [e.length]; exact hL) hal hk (bound_map (A := A.in1.in1) hu)
    (keyH_turns (s := { s with heap := copyHeap s.heap vs }) e fun v x hR hx h tk kp => turn v x hR hx h tk (up kp)) fun h' tk out c kp hD ko => ⟨rfl, ?_⟩
  exact h out c h' tk (up kp) fresh hD ((ko.length (by rw [List.length_map]; exact e.length.symm)).trans e.length) (keyedOut_each k ko e)
end
end PySem.W
namespace Cc
open PySem PySem.Spec PyProof.Rows L2
open PySem.W (EachIs AllAlike Sortable dataLe KeyPure kla_obj kla_fn envX)
/-! new lists as values: by values -/
theorem fzv_new {R : DK} {l : List D} {G : DH} (h : R (.rol l) G) : ∀ p, G p = none → fzv R (.ref p) (updD G p (.lst l)) := fun p hp => by
  unfold fzv
  dsimp only
  rw [updD_same]
  show R (.rol l) (delD (updD G p (.lst l)) p)
  rw [delD_updD hp]
  exact h
theorem fzv_newK {R : DK} {l : List (Key × D)} {G : DH} (h : R (.rod l) G) : ∀ p, G p = none → fzv R (.ref p) (updD G p (.dK l)) := fun p hp => by
  unfold fzv
  dsimp only
  rw [updD_same]
  show R (.rod l) (delD (updD G p (.dK l)) p)
  rw [delD_updD hp]
  exact h
theorem fzv_of {R : DK} {v : D} {G : DH} (n : ∀ p, v ≠ .ref p) (h : R v G) : fzv R v G := by
  unfold fzv
  split
  · exact absurd rfl (n _)
  · exact h
section
variable {X : Cx}
theorem od_frz {f : Value → Value → Sem Value} {r2 s2 : D2} (h : OD X f r2) (k : ∀ d e G R, s2 d e G R → r2 d e G (fzv R)) : OD X f s2 := by
  obtain ⟨r, h1, h2⟩ := h
  refine ⟨fun x y H Q => r x y H (fun v H1 => Q v H1 ∨ ∃ d u, H1 d = some u ∧ Mut (some u) ∧ ∀ od, Q v (upd H1 d (.frz od u))), fun pins s σ H x y v u Q I rx ry q => ?_, fun T x y H d e G R Q hr rx ry q cr => h2 T x y H d e G _ _ hr rx ry (k _ _ _ _ q) (clo_fz cr)⟩
  refine thn (h1 pins s σ H x y v u _ I rx ry q) fun b s1 ⟨z, H1, I1, rz, q1⟩ => ?_
  rcases q1 with q1 | ⟨d, o, e1, mu, q1⟩
  · exact ⟨z, H1, I1, rz, q1⟩
  · obtain ⟨od, I2⟩ := I1.lock e1 mu
    exact ⟨z, _, I2, rz, q1 od⟩
theorem cd_frz {f : Value} {r2 s2 : DC} (h : CD X f r2) (k : ∀ ds G R, s2 ds G R → r2 ds G (fzv R)) : CD X f s2 := by
  obtain ⟨r, h1, h2⟩ := h
  refine ⟨fun xs H Q => r xs H (fun v H1 => Q v H1 ∨ ∃ d u, H1 d = some u ∧ Mut (some u) ∧ ∀ od, Q v (upd H1 d (.frz od u))), fun pins s σ H xs us Q I rx q => ?_, fun T x H d G R Q hr rx q cr => h2 T x H d G _ _ hr rx (k _ _ _ q) (clo_fz cr)⟩
  refine thn (h1 pins s σ H xs us _ I rx q) fun b s1 ⟨z, H1, I1, rz, q1⟩ => ?_
  rcases q1 with q1 | ⟨d, o, e1, mu, q1⟩
  · exact ⟨z, H1, I1, rz, q1⟩
  · obtain ⟨od, I2⟩ := I1.lock e1 mu
    exact ⟨z, _, I2, rz, q1 od⟩
theorem cd_imp {f : Value} {r2 s2 : DC} (h : CD X f r2) (k : ∀ ds G R, s2 ds G R → r2 ds G R) : CD X f s2 := by
  obtain ⟨r, h1, h2⟩ := h
  exact ⟨r, h1, fun T x H d G R Q hr rx q cr => h2 T x H d G _ _ hr rx (k _ _ _ q) cr⟩
end
end Cc
/-! ### operators, built-ins: lists as values -/
namespace Cc
open PySem PySem.Spec PyProof.Rows L2
open PySem.W (EachIs AllAlike Sortable dataLe KeyPure kla_obj kla_fn envX)
section
variable {X : Cx} {pins : List (Addr × Obj)} {σ : L2.St} {H : Hp} {s : Shared} {l : Addr} {xs : List V}
theorem rdM (I : Inv X pins σ H s) (hH : Rd H l (.lst xs)) : xs.length ≤ sizeLine ∧ ∃ (its : List Value) (n : Nat), Vals xs its ∧ xs.length = its.length ∧ s.heap.get? l = some { cls := .type "list", data := .seq its.toArray n } := by
  obtain ⟨z, its, n, r, e⟩ := hH.ok I.hok
  exact ⟨z, its, n, r, r.length, e⟩
def rCatR : R2 := fun x y H Q => ∃ l b xs zs, x = .ref l ∧ y = .ref b ∧ Rd H l (.lst xs) ∧ Rd H b (.lst zs) ∧ xs.length + zs.length ≤ sizeLine ∧ ∀ p, H p = none → Q (.ref p) (upd H p (.lst (xs ++ zs)))
theorem op_catR : OpR X (binaryOp .Add) rCatR := by
  intro pins s σ H x y v u Q I rx ry h
  obtain ⟨l, b, xs, zs, rfl, rfl, hH, hB, hz, q⟩ := h
  cases rx
  cases ry
  obtain ⟨z, its, n, r, hl, e⟩ := rdM I hH
  obtain ⟨z2, its2, n2, r2, hl2, e2⟩ := rdM I hB
  refine PySem.P.add_list e e2 ?_ (by rw [List.size_toArray, List.size_toArray]; omega)
  have ea : its.toArray ++ its2.toArray = (its ++ its2).toArray := by simp
  rw [ea]
  exact ⟨.ref _, _, I.lnew (t' := s.toks) (r.append r2) (by rw [List.length_append]; omega), rfl, q _ I.fresh⟩
def rRepR : R2 := fun x y H Q => ∃ l k xs, x = .ref l ∧ y = .int k ∧ Rd H l (.lst xs) ∧ -(2 ^ 63) ≤ k ∧ k < 2 ^ 63 ∧ xs.length * k.toNat ≤ sizeLine ∧
  ∀ p, H p = none → Q (.ref p) (upd H p (.lst (List.replicate k.toNat xs).flatten))
theorem op_repR : OpR X (binaryOp .Mult) rRepR := by
  intro pins s σ H x y v u Q I rx ry h
  obtain ⟨l, k, xs, rfl, rfl, hH, h1, h2, hz, q⟩ := h
  cases rx
  obtain ⟨t, rfl⟩ := ry
  obtain ⟨z, its, n, r, hl, e⟩ := rdM I hH
  have hlen : its.toArray.size * k.toNat ≤ sizeLine := by rw [List.size_toArray, ← hl]; exact hz
  have hcap : ¬ its.toArray.size * k.toNat > (2 ^ 63 - 1) / 8 := by
    have : (sizeLine : Nat) ≤ (2 ^ 63 - 1) / 8 := by decide
    omega
  have hfit : ¬ (!Builtin.List.listFitsIndex k) = true := by
    rw [fitsIndex_both h1 h2]
    exact Bool.false_ne_true
  have hlong : ¬ Builtin.List.listTooLong (its.toArray.size * k.toNat) = true := by
    rw [notLongL hlen]
    exact Bool.false_ne_true
  have hnew : List.foldl (fun x1 x2 => x1 ++ x2) #[] (List.replicate (if its.toArray.isEmpty = true then 0 else k.toNat) its.toArray) = (List.replicate k.toNat its).flatten.toArray := by
    have f0 : ∀ m : Nat, List.foldl (fun x1 x2 => x1 ++ x2) #[] (List.replicate m its.toArray) = (List.replicate m its).flatten.toArray := fun m => by
      have := foldl_rep its m []
      rw [List.nil_append] at this
      exact this
    rw [f0]
    cases its with
    | nil => simp
    | cons a r' => rw [if_neg (by simp)]
  refine wpAny_binaryOp_repeat_ref (T := "list") (U := "int") (by decide) ⟨_, e, rfl⟩ (fun s' => typeIs_int s' k t) noFill_list_mul F.fills_int_mul F.slot_int_rmul repeat_list F.slot_int_index.lookup
    (call_meets F.slot_int_rmul (typeIs_int s k t) F.entry_int_rmul (F.args_int_rmul_2 _ _) (int___rmul___int_list k t l its.toArray n)
      ⟨e, rfl, ⟨_, e, rfl⟩, call_meets F.slot_list_mul ⟨_, e, rfl⟩ F.entry_list_mul (F.args_list_mul_2 _ _) (AutoListH.list___mul___list_int_3 l its.toArray n k t hfit hcap hlong) ⟨e, ?_⟩⟩)
  rw [hnew]
  exact ⟨.ref _, _, I.lnew (t' := s.toks) (r.rep k.toNat) (by rw [PyProof.Rows.lm_len_rep_flat, Nat.mul_comm]; exact hz), rfl, q _ I.fresh⟩
def rExtendR : V → List V → Hp → VK → Prop := fun x vs H Q => ∃ l b xs zs, x = .ref l ∧ vs = [.ref b] ∧ H l = some (.lst xs) ∧ Rd H b (.lst zs) ∧ xs.length + zs.length ≤ sizeLine ∧ Q .non (upd H l (.lst (xs ++ zs)))
theorem mt_extendR : MtM X "list.extend" rExtendR := by
  intro pins s σ H x vs v us Q I rx rv h
  obtain ⟨l, b, xs, zs, rfl, rfl, hH, hB, hz, q⟩ := h
  cases rx
  obtain ⟨u, rfl, ru⟩ := rv.one
  cases ru
  obtain ⟨z, its, n, r, hl, e⟩ := I.lstM hH
  obtain ⟨z2, its2, n2, r2, hl2, e2⟩ := rdM I hB
  have hsz : its.toArray.size + its2.toArray.size ≤ sizeLine := by rw [List.size_toArray, List.size_toArray]; omega
  have hlong : ¬ (!its.toArray.isEmpty && Builtin.List.listTooLong (its.toArray.size + its2.toArray.size)) = true := by
    rw [notLongL hsz, Bool.and_false]
    exact Bool.false_ne_true
  refine call_meets F.slot_list_extend ⟨_, e, rfl⟩ F.entry_list_extend (F.args_list_extend_2 _ _)
    (AutoSeq1.list_extend_list_list_0 l its.toArray n b its2.toArray n2 hlong (by rw [List.size_toArray]; omega) (by omega)) ⟨e, e2, ?_⟩
  refine ⟨.non, _, I.lset (its' := its ++ its2) hH e (by simp) (r.append r2) ?_, rfl, q⟩
  rw [List.length_append]
  omega
def rSortS (K : PySem.W.Frag) : List V → Hp → VK → Prop := fun vs H Q => ∃ (a : Addr) (bs : List (V × PyData)), vs = [V.ref a] ∧ (SqL K H a (bs.map Prod.fst) ∨ SqT K H a (bs.map Prod.fst)) ∧ (∀ b ∈ bs, Dp K H b.1 b.2) ∧ AllAlike (bs.map Prod.snd) ∧ Sortable (bs.map Prod.snd) ∧ (∀ b ∈ bs, b.2.depth ≤ 40) ∧
  bs.length ≤ sizeLine ∧ ∀ p, H p = none → Q (.ref p) (upd H p (.lst (sortV bs)))
theorem cr_sortS (hu : X.A.units + 42 < cLine) : CallR X (.builtin "sorted") (rSortS X.K) := by
  intro pins s σ H vs us Q I r h
  obtain ⟨a, bs, rfl, hs, hd, hal, hk, hdep, hz, q⟩ := h
  have hq : ∃ (T : String) (its : List Value) (o : Obj) (n : Nat), (T = "list" ∨ T = "tuple") ∧ Vals (bs.map Prod.fst) its ∧ s.heap.get? a = some o ∧ o.cls = .type T ∧ o.data = .seq its.toArray n := by
    rcases hs with hs | hs
    · obtain ⟨its, rv, ⟨o, n, e1, e2, _, e3⟩, _⟩ := I.list hs
      exact ⟨"list", its, o, n, .inl rfl, rv, e1, e2, e3⟩
    · obtain ⟨its, rv, ⟨o, e1, e2, n, e3⟩, _⟩ := I.tuple hs
      exact ⟨"tuple", its, o, n, .inr rfl, rv, e1, e2, e3⟩
  obtain ⟨T, its, o, n, hT, rv, e1, e2, e3⟩ := hq
  rw [Vals.ref1 r]
  refine PySem.W.cc_sorted_data (R := fun v (b : V × PyData) => RelV b.1 v) (enc := Prod.snd) hT e1 e2 e3 (each_of_vals rv fun b _ v r => r) (each_of_vals rv fun b hb v r => Dp.reads I b.2 b.1 v (hd b hb) r) hal hk hz (fun b hb => by have := hdep b hb; omega) fun out ho eo => ?_
  obtain ⟨ep, he'⟩ := PyProof.Rows.sortedAll_at s.heap its out.toArray
  have hlen : (sortV bs).length ≤ sizeLine := by unfold sortV; rw [List.length_map, List.length_mergeSort]; exact hz
  refine ⟨.ref _, upd H (s.heap.objs.size + 1) (.lst (sortV bs)), I.laid (t' := s.toks) (fun _ _ => PyProof.Rows.sortedAll_old) (Nat.le_succ _) ⟨hlen, out, ep, vals_of_each eo, he'⟩, rfl, q _ (I.hok.fresh (Nat.le_succ _))⟩
end
theorem lstOf_rd {K : KT} {G : DH} {H : Hp} {v : V} {y : D} {l : List D} (hr : HRel K G H) (r : Dv K H v y) (e : lstOf G y = some l) : ∃ p xs, v = .ref p ∧ Rd H p (.lst xs) ∧ DvL K H xs l := by
  unfold lstOf at e
  split at e
  · cases r
    split at e
    · rename_i a l' ea
      cases e
      obtain ⟨xs, e1, r1⟩ := hr _ _ ea
      exact ⟨_, _, rfl, .inl e1, r1⟩
    · cases e
  · cases e
    cases r with
    | rol hq r =>
      obtain ⟨o, hq⟩ := hq
      exact ⟨_, _, rfl, .inr ⟨o, hq⟩, r⟩
  · cases e
theorem Dv.as_tup {K : KT} {H : Hp} {v : V} {d : D} {l : List D} (h : Dv K H v d) (e : d.tl = some l) : Dv K H v (.tup l) := by
  obtain ⟨a, xs, rfl, h1, h2⟩ := h.sqT e
  exact .tup h1 h2
section
variable {X : Cx}
def dAddF : D2 := fun x y G R => match x, y with
  | .int i, .int j => R (.int (i + j)) G
  | .str s, .str t => s.length + t.length ≤ sizeLine ∧ R (.str (s ++ t)) G
  | x, y => match x.tl, y.tl with
    | some l, some m => l.length + m.length ≤ sizeLine ∧ R (.tup (l ++ m)) G
    | _, _ => match lstOf G x, lstOf G y with
      | some l, some m => l.length + m.length ≤ sizeLine ∧ R (.rol (l ++ m)) G
      | _, _ => False
def dAdd0 : D2 := fun x y G R => match lstOf G x, lstOf G y with
  | some l, some m => l.length + m.length ≤ sizeLine ∧ ∀ n, G n = none → R (.ref n) (updD G n (.lst (l ++ m)))
  | _, _ => False
theorem od_add0 : OD X (binaryOp .Add) dAdd0 := by
  refine ⟨_, op_catR, fun T x y H d e G R Q hr rx ry q cr => ?_⟩
  unfold dAdd0 at q
  split at q
  · rename_i l m e1 e2
    obtain ⟨p, xs, rfl, a1, a2⟩ := lstOf_rd hr rx e1
    obtain ⟨b, ys, rfl, b1, b2⟩ := lstOf_rd hr ry e2
    exact ⟨_, _, xs, ys, rfl, rfl, a1, b1, by rw [a2.length, b2.length]; exact q.1, fun p hp => cr _ _ _ _ (Up.new hp) (hr.new (c := .lst (l ++ m)) hp ⟨_, upd_same, (a2.append b2).up (Up.new hp)⟩) (.ref p) (q.2 p (hr.none hp))⟩
  · exact False.elim q
theorem od_or {f : Value → Value → Sem Value} {r s : D2} (h : OD X f r) (h' : OD X f s) : OD X f (fun x y G R => r x y G R ∨ s x y G R) := by
  obtain ⟨a, b, c⟩ := h
  obtain ⟨a', b', c'⟩ := h'
  exact ⟨_, b.or b', fun T => (c T).or (c' T)⟩
theorem od_imp {f : Value → Value → Sem Value} {r s : D2} (h : OD X f r) (k : ∀ d e G R, s d e G R → r d e G R) : OD X f s := by
  obtain ⟨a, b, c⟩ := h
  exact ⟨_, b, fun T => (c T).imp k⟩
/-- a value may be read as another one -/
theorem od_reread {f : Value → Value → Sem Value} {r s : D2} (h : OD X f r) (k : ∀ d e G R, s d e G R → ∃ R', r d e G R' ∧ ∀ (K : KT) H v z G', Dv K H v z → R' z G' → ∃ z', Dv K H v z' ∧ R z' G') : OD X f s := by
  obtain ⟨a, b, c⟩ := h
  refine ⟨_, b, fun T x y H d e G R Q hr rx ry q cr => ?_⟩
  obtain ⟨R', q', kk⟩ := k _ _ _ _ q
  refine c T x y H d e G R' Q hr rx ry q' fun v H' z G' u hr' dv qz => ?_
  obtain ⟨z', dz, qz'⟩ := kk _ _ _ _ _ dv qz
  exact cr v H' z' G' u hr' dz qz'
theorem od_addF : OD X (binaryOp .Add) dAddF := by
  refine od_reread (od_or (od_frz od_add0 (s2 := fun x y G R => match lstOf G x, lstOf G y with
    | some l, some m => l.length + m.length ≤ sizeLine ∧ R (.rol (l ++ m)) G
    | _, _ => False) fun d e G R q => ?_) od_add) fun d e G R q => ?_
  · unfold dAdd0
    split at q
    · exact ⟨q.1, fzv_new q.2⟩
    · exact q.elim
  · unfold dAddF at q
    split at q
    · exact ⟨R, .inr q, fun K H v z G' a b => ⟨z, a, b⟩⟩
    · exact ⟨R, .inr q, fun K H v z G' a b => ⟨z, a, b⟩⟩
    · split at q
      · rename_i l m e1 e2
        refine ⟨fun z G' => z.tl = some (l ++ m) ∧ R (.tup (l ++ m)) G', .inr ?_, fun K H v z G' a b => ⟨_, a.as_tup b.1, b.2⟩⟩
        unfold dAdd
        split
        · cases e1
        · cases e1
        · cases e1
        · rw [e1, e2]
          refine ⟨q.1, fun h => ⟨by rw [h]; exact e2, q.2⟩, fun _ h => ⟨by rw [h, List.append_nil]; exact e1, q.2⟩, fun _ _ => ⟨rfl, q.2⟩⟩
      · exact ⟨R, .inl q, fun K H v z G' a b => ⟨z, a, b⟩⟩
def dMulF : D2 := fun x y G R => match x, y with
  | .int i, .int j => CMul i j ∧ R (.int (i * j)) G
  | x, .int k => (match lstOf G x with
    | some l => -(2 ^ 63) ≤ k ∧ k < 2 ^ 63 ∧ l.length * k.toNat ≤ sizeLine ∧ R (.rol (List.replicate k.toNat l).flatten) G
    | none => False)
  | _, _ => False
def dMul0 : D2 := fun x y G R => match y with
  | .int k => (match lstOf G x with
    | some l => -(2 ^ 63) ≤ k ∧ k < 2 ^ 63 ∧ l.length * k.toNat ≤ sizeLine ∧ ∀ n, G n = none → R (.ref n) (updD G n (.lst (List.replicate k.toNat l).flatten))
    | none => False)
  | _ => False
theorem od_mul0 : OD X (binaryOp .Mult) dMul0 := by
  refine ⟨_, op_repR, fun T x y H d e G R Q hr rx ry q cr => ?_⟩
  unfold dMul0 at q
  split at q
  · split at q
    · rename_i l e1
      cases ry
      obtain ⟨p, xs, rfl, a1, a2⟩ := lstOf_rd hr rx e1
      obtain ⟨h1, h2, z, q⟩ := q
      exact ⟨_, _, xs, rfl, rfl, a1, h1, h2, by rw [a2.length]; exact z, fun p hp => cr _ _ _ _ (Up.new hp) (hr.new (c := .lst _) hp ⟨_, upd_same, (a2.rep _).up (Up.new hp)⟩) (.ref p) (q p (hr.none hp))⟩
    · exact q.elim
  · exact False.elim q
theorem od_mulF : OD X (binaryOp .Mult) dMulF := by
  refine od_imp (od_or (od_frz od_mul0 (s2 := fun x y G R => match y with
    | .int k => (match lstOf G x with
      | some l => -(2 ^ 63) ≤ k ∧ k < 2 ^ 63 ∧ l.length * k.toNat ≤ sizeLine ∧ R (.rol (List.replicate k.toNat l).flatten) G
      | none => False)
    | _ => False) fun d e G R q => ?_) od_mul) fun d e G R q => ?_
  · unfold dMul0
    split at q
    · split at q
      · exact ⟨q.1, q.2.1, q.2.2.1, fzv_new q.2.2.2⟩
      · exact q.elim
    · exact q.elim
  · unfold dMulF at q
    split at q
    · exact .inr q
    · exact .inl q
    · exact q.elim
/-! list, tuple, sorted, all, len -/
def dListF : DC := fun xs G R => match xs with
  | [x] => (match seqOf G x with
    | some l => R (.rol l) G
    | none => False)
  | _ => False
theorem cd_listF : CD X (.type "list") dListF := cd_frz cd_list fun ds G R q => by
  unfold dListF at q
  unfold dListC
  split at q
  · split at q
    · rename_i l e
      first
        | exact fzv_new q
        | (rw [e]; exact fzv_new q)
        | (dsimp only; rw [e]; exact fzv_new q)
    · exact q.elim
  · exact q.elim
def dSorted0 : DC := fun xs G R => match xs with
  | [x] => ∃ l ts, seqOf G x = some l ∧ RddL G l ts ∧ AllAlike ts ∧ Sortable ts ∧ (∀ t ∈ ts, t.depth ≤ 40) ∧ l.length ≤ sizeLine ∧ ∀ p, G p = none → R (.ref p) (updD G p (.lst (sortD l ts)))
  | _ => False
def dSortedF : DC := fun xs G R => match xs with
  | [x] => ∃ l ts, seqOf G x = some l ∧ RddL G l ts ∧ AllAlike ts ∧ Sortable ts ∧ (∀ t ∈ ts, t.depth ≤ 40) ∧ l.length ≤ sizeLine ∧ R (.rol (sortD l ts)) G
  | _ => False
theorem cd_sorted0 (hu : X.A.units + 64 < cLine) : CD X (.builtin "sorted") dSorted0 := ⟨_, cr_sortS (by omega), fun T x H d G R Q hr r q cr => by
  unfold dSorted0 at q
  split at q
  · cases r with
    | cons r1 r2 =>
      cases r2
      obtain ⟨l, ts, e, rd, hal, hk, hdep, hz, q⟩ := q
      obtain ⟨p, xs, rfl, hq, rl⟩ := seqOf_sq hr r1 e
      have hl : xs.length = ts.length := rl.length.trans rd.len
      have e1 : (xs.zip ts).map Prod.fst = xs := List.map_fst_zip (by omega)
      have e2 : (xs.zip ts).map Prod.snd = ts := List.map_snd_zip (by omega)
      refine ⟨p, xs.zip ts, rfl, by rw [e1]; exact hq, dpAll_at (RddL.dp hr rd rl), by rw [e2]; exact hal, by rw [e2]; exact hk, fun b hb => hdep _ (by rw [← e2]; exact List.mem_map.mpr ⟨b, hb, rfl⟩), by rw [List.length_zip, rl.length]; omega, fun n hn => ?_⟩
      have un := Up.new (o := .lst (sortV (xs.zip ts))) hn
      refine cr _ _ _ _ un (hr.new (c := .lst (sortD l ts)) hn ⟨sortV (xs.zip ts), upd_same, ?_⟩) (.ref n) (q n (hr.none hn))
      have z := each_sort (le := dataLe false Prod.snd) (le' := dataLe false (Prod.snd : D × PyData → PyData)) (fun a b c d h1 h2 => by
        show PySem.W.dataLe false (fun t : PyData => t) a.2 c.2 = PySem.W.dataLe false (fun t : PyData => t) b.2 d.2
        rw [h1.2, h2.2]) (dvL_zip rl hl)
      exact (dvL_of_each z).up un
  · exact False.elim q⟩
theorem cd_sortedF (hu : X.A.units + 64 < cLine) : CD X (.builtin "sorted") dSortedF := cd_frz (cd_sorted0 hu) fun ds G R q => by
  unfold dSortedF at q
  split at q
  · obtain ⟨l, ts, a, b, c, d, e, f, q⟩ := q
    exact ⟨l, ts, a, b, c, d, e, f, fzv_new q⟩
  · exact q.elim
def dAllF : DC := fun xs G R => match xs with
  | [x] => ∃ bs : List Bool, lstOf G x = some (bs.map D.bl) ∧ R (.bl (bs.all id)) G
  | _ => False
theorem cd_allF (hc : X.calm = true) : CD X (.builtin "all") dAllF := ⟨_, cr_all hc, fun T x H d G R Q hr r q cr => by
  unfold dAllF at q
  split at q
  · cases r with
    | cons r1 r2 =>
      cases r2
      obtain ⟨bs, e, q⟩ := q
      obtain ⟨p, xs, rfl, h1, h2⟩ := lstOf_sq hr r1 e
      rw [dvl_bls h2] at h1
      exact ⟨_, bs, rfl, h1, cr _ _ _ _ (Up.refl H) hr (.bl _) q⟩
  · exact False.elim q⟩
/-! methods -/
def mExtendF : DM := fun x xs G R => match x, xs with
  | .ref a, [y] => ∃ l m, G a = some (.lst l) ∧ lstOf G y = some m ∧ l.length + m.length ≤ sizeLine ∧ R .non (updD G a (.lst (l ++ m)))
  | _, _ => False
theorem md_extendF : MD X "list.extend" mExtendF := ⟨_, mt_extendR, fun T x xs H d ds G R Q hr r rs q cr => by
  unfold mExtendF at q
  split at q
  · cases r
    cases rs with
    | cons r1 r2 =>
      cases r2
      obtain ⟨l, m, e1, e2, z, q⟩ := q
      obtain ⟨xs, a1, a2⟩ := hr _ _ e1
      obtain ⟨b, ys, rfl, b1, b2⟩ := lstOf_rd hr r1 e2
      have u : ∀ o, Up H (upd H _ o) := fun o => Up.put a1 trivial
      exact ⟨_, _, xs, ys, rfl, rfl, a1, b1, by rw [a2.length, b2.length]; exact z, cr _ _ _ _ (u _) (hr.put (c := .lst _) a1 trivial ⟨_, upd_same, (a2.append b2).up (u _)⟩) .non q⟩
  · exact False.elim q⟩
/-! slices -/
def sSlF : D → Option Int → Option Int → DH → DK → Prop := fun x lo hi G R => match x.tl with
  | some l => R (.tup (cutD l lo hi)) G
  | none => match lstOf G x with
    | some l => R (.rol (cutD l lo hi)) G
    | none => False
theorem cut_whole {l : List D} {lo hi : Option Int} (h : HT.sIx l.length 0 lo = 0 ∧ HT.sIx l.length l.length hi = l.length) : cutD l lo hi = l := by
  unfold cutD
  rw [h.1, h.2, List.drop_zero, Nat.sub_zero, List.take_length]
theorem sldF : SlD X sSlF := by
  have h1 : SlR X (rSlL X.K) := sl_list
  have h2 : SlR X (rSlA X.K) := sl_tupA
  refine ⟨fun x lo hi H Q => (rSlL X.K x lo hi H (fun v H1 => Q v H1 ∨ ∃ d u, H1 d = some u ∧ Mut (some u) ∧ ∀ od, Q v (upd H1 d (.frz od u)))) ∨ rSlA X.K x lo hi H Q, ?_, fun T x lo hi H d G R Q hr r q cr => ?_⟩
  · intro pins s σ H x v vl vu lo hi sl Q I rx hs pl pu h
    rcases h with h | h
    · obtain ⟨T, id, a, b, c⟩ := h1 pins s σ H x v vl vu lo hi sl _ I rx hs pl pu h
      refine ⟨T, id, a, b, thn c fun v s1 ⟨z, H1, I1, rz, q1⟩ => ?_⟩
      rcases q1 with q1 | ⟨d, o, e1, mu, q1⟩
      · exact ⟨z, H1, I1, rz, q1⟩
      · obtain ⟨od, I2⟩ := I1.lock e1 mu
        exact ⟨z, _, I2, rz, q1 od⟩
    · exact h2 pins s σ H x v vl vu lo hi sl Q I rx hs pl pu h
  · unfold sSlF at q
    split at q
    · rename_i l el
      obtain ⟨a, xs, h1, h2, h3⟩ := r.sqT el
      refine .inr ⟨a, xs, h1, h2, fun hw => ?_, fun hw p hp => ?_⟩
      · rw [h3.length] at hw
        subst h1
        rw [cut_whole hw] at q
        exact cr _ _ _ _ (Up.refl H) hr (r.as_tup el) q
      · exact cr _ _ _ _ (Up.new hp) (hr.new0 hp) (.tup (SqT.of upd_same) ((h3.cut lo hi).up (Up.new hp))) q
    · split at q
      · rename_i l el
        obtain ⟨a, xs, rfl, h2, h3⟩ := lstOf_rd hr r el
        have h2' : SqL X.K H a xs := by
          rcases h2 with h | ⟨o, h⟩
          · exact .inl (.inl h)
          · exact .inl (.inr ⟨o, h⟩)
        refine .inl ⟨a, xs, rfl, h2', fun p hp => clo_fz cr _ _ _ _ (Up.new hp) (hr.new (c := .lst _) hp ⟨_, upd_same, (h3.cut lo hi).up (Up.new hp)⟩) (.ref p) (fzv_new q p (hr.none hp))⟩
      · exact q.elim
end
/-! displays -/
def dLstF (dl : DA) : DE := fun δ G R EX => dl δ G (fun xs G1 => xs.length ≤ sizeLine ∧ R (.rol xs) G1) EX
section
variable {X : Cx} {E : EK} {es : List Expr} {pos : Pos} {dl : DA}
theorem pd_lstF (h : PDA X E es dl) : PD X E (.List es pos) (dLstF dl) :=
  ⟨imE (pe_frz (pe_lst h.pa)) fun σ H Q ⟨δ, G, R, EX, sr, hr, h, cr, cx⟩ => ⟨δ, G, _, EX, sr, hr, h, fun xs H1 l G1 u1 h1 r1 ⟨z, q1⟩ => ⟨by rw [r1.length]; exact z, fun p hp =>
    clo_fz cr _ _ _ _ (u1.trans (Up.new hp)) (h1.new (c := .lst l) hp ⟨xs, upd_same, r1.up (Up.new hp)⟩) (.ref p) (fzv_new q1 p (h1.none hp))⟩, cx⟩⟩
end
end Cc
/-! ### sorted(a list or tuple, key = a lambda), read as a value -/
namespace Cc
open PySem PySem.Spec PyProof.Rows L2
open PySem.W (EachIs AllAlike Sortable dataLe KeyPure kla_obj kla_fn envX)
def dSortGF {κ : Type} (enc : κ → PyData) (kf : D → Option κ) (da : DE) : DE := fun δ G R EX => da δ G (fun x G1 => ∃ (l : List D) (ks : List κ), seqOf G1 x = some l ∧ l.map kf = ks.map some ∧ l.length ≤ sizeLine ∧ R (.rol (sortG enc l ks)) G1) EX
section
variable {X : Cx} {E : EK} {e : Expr} {de : DE} {p pos lp kp : Pos} {params : Arguments} {body : Expr} {scope : Scope} {x : Str} {κ : Type} {enc : κ → PyData} {kf : D → Option κ} {c P : Addr} {j : Nat}
theorem pd_sortGF (KB : KeyBody x body enc kf) (hal : ∀ a b, PySem.W.alike (enc a) (enc b) = true) (hsk : (∀ b, ∃ y r, enc b = .tuple (y :: r)) ∨ ∀ b, enc b ≠ .none ∧ ∀ xs, enc b ≠ .tuple xs) (hdep : ∀ b, (enc b).depth ≤ 1) (hkf : ∀ d k, kf d = some k → ∃ l, d.tl = some l)
    (TB : LamX.TabB X.base X.mg c P) (hcode : X.env.code = .ref c) (hm : (P, X.env.qual ++ "<lambda>") ∈ E.2) (hu : ∀ q ∈ E.2, q.1 = P → q.2 = X.env.qual ++ "<lambda>")
    (L : Lam1 scope x) (hdef : defaultsOf params X.env = ([], [])) (hbind : ∀ pm c' ctv v, bindArgs (kla_fn "<lambda>" (X.env.qual ++ "<lambda>") params body scope [] pm (.ref c') ctv) ⟨[v], []⟩ = pure [(x, v)])
    (hr : Room (j + 2) X.A) (hf : X.mg "sorted" = none) (ha : PD X E e de) (hg : Gl X "sorted" := by rfl)
    (hs : starEach (e :: []) X.env = (false, eval e X.env) :: starEach [] X.env := by rfl)
    (he : backTo pos (starEach (e :: []) X.env) = (false, eval e X.env) :: backTo pos (starEach [] X.env) := by rfl) (hpl : (backTo pos (starEach (e :: []) X.env)).any (·.1) = false := by rfl)
    (hall : (backToKw pos (keywordEach [⟨some "key", .Lambda params body scope lp, kp⟩] X.env)).all (·.1.isSome) = true := by rfl) (hnone : (backToKw pos (keywordEach [⟨some "key", .Lambda params body scope lp, kp⟩] X.env)).any (·.1.isNone) = false := by rfl)
    (hks : (backToKw pos (keywordEach [⟨some "key", .Lambda params body scope lp, kp⟩] X.env)).filterMap (·.1) = (["key"] : List Str) := by rfl) :
    PD X E (.Call (.Name "sorted" p) [e] [⟨some "key", .Lambda params body scope lp, kp⟩] pos) (dSortGF enc kf de) := by
  refine ⟨⟨fun pins s σ H Q I h => ?_⟩⟩
  obtain ⟨δ, G, R, EX, sr, hG, h, cr, cx⟩ := h
  refine wpAny_Call_Name_kw (ld_blt I hg hf (show bootBuiltins "sorted" = some (.builtin "sorted") by decide +kernel) ?_)
  refine PyProof.Rows.callWith_kw (thn ((pa_cons ha.pe pa_nil hs).run pos pins s σ H (fun vs H1 => ∃ (x : V) (d : D) (l : List D) (ks : List κ) (G1 : DH), vs = [x] ∧ Up H H1 ∧ HRel (kt X E) G1 H1 ∧ Dv (kt X E) H1 x d ∧ seqOf G1 d = some l ∧ l.map kf = ks.map some ∧ l.length ≤ sizeLine ∧ R (.rol (sortG enc l ks)) G1) I
    ⟨δ, G, _, EX, sr, hG, h, fun v H1 d G1 u1 h1 r1 q1 => ?_, cx⟩) fun us s1 ⟨vs, H1, I1, r1, q1⟩ => ?_) he hpl hall hnone
  · obtain ⟨l, ks, e1, e2, e3, q⟩ := q1
    exact ⟨_, d, l, ks, G1, rfl, u1, h1, r1, e1, e2, e3, q⟩
  · obtain ⟨x0, d0, l, ks, G1, rfl, u1, h1, dv1, e1, e2, e3, q⟩ := q1
    rw [hks]
    cases r1 with
    | cons ra rn =>
      cases rn
      obtain ⟨p0, xs0, ep0, _, _⟩ := seqOf_sq h1 dv1 e1
      subst ep0
      cases ra
      show wpAny _ _ (evalAll ((do let v ← eval (.Lambda params body scope lp) X.env; standAt pos; pure v) :: [])) _ _ s1
      refine wpAny_evalAll_cons (wpAny_bind (LamX.lam_make2 (T := E.2) I1 TB hcode hm hu h1.t hdef (fun y hy z => absurd z (L.free y hy)) fun f c' pm ctv H2 s2 I2 ex tb hf2 hfn hfr hc2 => wpAny_bind (wpAny_standAt (wpAny_pure (wpAny_evalAll_nil ?_)))))
      have hcl : cloFrom X.env.cells scope.names [] = [] := by
        have z : ∀ names : List (Str × NameKind), (∀ y ∈ names, y.2 ≠ .free) → cloFrom X.env.cells names [] = [] := fun names => by
          induction names with
          | nil => intro _; rfl
          | cons y r ih =>
            intro hy
            obtain ⟨n, kd⟩ := y
            have h0 := hy (n, kd) List.mem_cons_self
            have ih := ih fun y hm => hy y (List.mem_cons_of_mem _ hm)
            unfold cloFrom
            cases kd <;> first | exact ih | exact absurd rfl h0
        exact z _ L.free
      rw [hcl] at hf2
      have h2 : HRel (kt X E) G1 H2 := extN_h h1 ex tb
      obtain ⟨aa, xs, ep1, hq2, rl⟩ := seqOf_sq h2 (dv1.up (extN_up ex)) e1
      obtain rfl : p0 = aa := V.ref.inj ep1
      have hsq : ∃ (T : String) (its : List Value) (o : Obj) (n : Nat), (T = "list" ∨ T = "tuple") ∧ Vals xs its ∧ s2.heap.get? p0 = some o ∧ o.cls = .type T ∧ o.data = .seq its.toArray n := by
        rcases hq2 with hs | hs
        · obtain ⟨its, rv, ⟨o, n, e1, e2, _, e3⟩, _⟩ := I2.list hs
          exact ⟨"list", its, o, n, .inl rfl, rv, e1, e2, e3⟩
        · obtain ⟨its, rv, ⟨o, e1, e2, n, e3⟩, _⟩ := I2.tuple hs
          exact ⟨"tuple", its, o, n, .inr rfl, rv, e1, e2, e3⟩
      obtain ⟨T0, its, o0, n0, hT0, rv, g1, g2, g3⟩ := hsq
      have hlk : l.length = ks.length := by
        have z := congrArg List.length e2
        rwa [List.length_map, List.length_map] at z
      have hbs : (l.zip ks).length = l.length := by rw [List.length_zip, ← hlk, Nat.min_self]
      have hcr : s2.heap.CodeRec (.ref c') (X.env.qual ++ "<lambda>") := by
        obtain ⟨⟨oc, vs, t, hoc, hdc, hvc⟩, _, _⟩ := I2.hok c' _ hc2
        exact ⟨c', oc, vs, t, rfl, hoc, hdc, hvc⟩
      have hun := hr.units
      refine PySem.W.cc_sorted_key (b := false) (R := fun (v : Value) (b : D × κ) => ∃ y, RelV y v ∧ Dv (kt X E) H2 y b.1) (fun b : D × κ => enc b.2) hT0 g1 g2 g3 (each_of rv rl hlk) ?hal ?hsk (by rw [hbs]; exact e3) (fun b _ => ?_) (PyProof.Rows.ksk_s1 _ _) (fun _ => PyProof.Rows.ksk_l1 _ _) (fun _ => PyProof.Rows.ksk_t1 _ _) (fun v b ⟨y, ry, dy⟩ hb h' tk kp => ?_) fun out cc h' tk kp fr hD hlen eo => ?_
      case hal =>
        exact AllAlike.of fun b b' => hal _ _
      case hsk =>
        rcases hsk with z | z
        · exact Sortable.tuples fun b => z _
        · exact Sortable.others fun b => z _
      · have := hdep b.2
        omega
      · have kk := zip_kf e2 b hb
        obtain ⟨l', el⟩ := hkf _ _ kk
        obtain ⟨t, xs', ey, hq, r'⟩ := dy.sqT el
        subst ey
        obtain rfl : v = .ref t := ry
        obtain ⟨its', rv', pt, hz'⟩ := I2.tuple hq
        have pt' : IsTup h' t its'.toArray := by
          obtain ⟨o, ho, rest⟩ := pt
          exact ⟨o, kp _ _ ho, rest⟩
        refine lam_key (s := { s2 with heap := h', toks := tk }) L (kp _ _ hf2) (hcr.keeps kp) hr.in1.in1.depth (I2.nolimit.keeps kp) (hbind pm c' ctv _) fun h₁ tk1 k1 hn => ?_
        have pt2 : IsTup h₁ t its'.toArray := by
          obtain ⟨o, ho, rest⟩ := pt'
          exact ⟨o, k1 _ _ ho, rest⟩
        exact KB (s := { s2 with heap := h₁, toks := tk1 }) L pt2 (by simpa using rv') el r' kk (by rw [List.size_toArray, ← rv'.length]; exact hz') hn
      · obtain ⟨ys, v1, v2⟩ := each_dv eo
        have fp : H2 (s2.heap.objs.size + 1) = none := I2.hok.fresh (Nat.le_succ _)
        have I3 : Inv X pins σ (upd H2 (s2.heap.objs.size + 1) (.lst ys)) { s2 with heap := h', toks := tk } := I2.laid kp (Nat.le_succ _) ⟨by rw [v2.length, List.length_map, List.length_mergeSort, hbs]; exact e3, _, _, v1, hD⟩
        have un := Up.new (o := .lst ys) fp
        have z := clo_fz cr _ _ _ _ (u1.trans ((extN_up ex).trans un)) (h2.new (c := .lst _) fp ⟨ys, upd_same, v2.up un⟩) (.ref _) (fzv_new q _ (h2.none fp))
        rcases z with z | ⟨d3, u3, e3, mu, z⟩
        · exact ⟨.ref (s2.heap.objs.size + 1), _, I3, rfl, z⟩
        · obtain ⟨od, I4⟩ := I3.lock e3 mu
          exact ⟨.ref (s2.heap.objs.size + 1), _, I4, rfl, z od⟩
end
end Cc
/-! ### reading by values: lemmas -/
namespace Cc
open PySem PySem.Spec PyProof.Rows L2
open PySem.W (EachIs AllAlike Sortable dataLe)
/-! items at written places -/
section
variable {α : Type} {a b c d e f g h : α} {l : List α}
theorem vat_0 : L2.atI (a :: l) 0 = some a := atI_nat (i := 0) rfl
theorem vat_1 : L2.atI (a :: b :: l) 1 = some b := atI_nat (i := 1) rfl
theorem vat_2 : L2.atI (a :: b :: c :: l) 2 = some c := atI_nat (i := 2) rfl
theorem vat_3 : L2.atI (a :: b :: c :: d :: l) 3 = some d := atI_nat (i := 3) rfl
theorem vat_4 : L2.atI (a :: b :: c :: d :: e :: l) 4 = some e := atI_nat (i := 4) rfl
theorem vat_5 : L2.atI (a :: b :: c :: d :: e :: f :: l) 5 = some f := atI_nat (i := 5) rfl
theorem vat_6 : L2.atI (a :: b :: c :: d :: e :: f :: g :: l) 6 = some g := atI_nat (i := 6) rfl
end
theorem vat_last {α : Type} {l : List α} (h : l ≠ []) : L2.atI l (-1) = some (l.getLast h) := by
  unfold L2.atI L2.ixN
  have hl : 0 < l.length := List.length_pos_iff.mpr h
  rw [if_neg (by omega), if_pos (by omega)]
  have e1 : (-1 + (l.length : Int)).toNat = l.length - 1 := by omega
  have e2 : ((l.length : Int) + -1).toNat = l.length - 1 := by omega
  have e3 : l[l.length - 1]? = some (l.getLast h) := by
    rw [← List.getLast?_eq_getElem?, List.getLast?_eq_some_getLast h]
  first
    | (simp only [e1, Option.bind_some]; exact e3)
    | (simp only [e2, Option.bind_some]; exact e3)
theorem vix_tup {l : List D} {i : Int} {G : DH} {R : DK} : dIx (.tup l) (.int i) G R = (match L2.atI l i with
  | some d => R d G
  | none => False) := rfl
theorem vix_rol {l : List D} {i : Int} {G : DH} {R : DK} : dIx (.rol l) (.int i) G R = (match L2.atI l i with
  | some d => R d G
  | none => False) := rfl
theorem vix_key {l : List Key} {i : Int} {G : DH} {R : DK} : dIx (.key l) (.int i) G R = (match L2.atI (l.map kD) i with
  | some d => R d G
  | none => False) := rfl
theorem vadd_int {i j : Int} {G : DH} {R : DK} : dAddF (.int i) (.int j) G R = R (.int (i + j)) G := rfl
theorem vadd_rol {l m : List D} {G : DH} {R : DK} : dAddF (.rol l) (.rol m) G R = (l.length + m.length ≤ sizeLine ∧ R (.rol (l ++ m)) G) := rfl
theorem vadd_tup {l m : List D} {G : DH} {R : DK} : dAddF (.tup l) (.tup m) G R = (l.length + m.length ≤ sizeLine ∧ R (.tup (l ++ m)) G) := rfl
theorem vadd_str {l m : Str} {G : DH} {R : DK} : dAddF (.str l) (.str m) G R = (l.length + m.length ≤ sizeLine ∧ R (.str (l ++ m)) G) := rfl
theorem vmul_int {i j : Int} {G : DH} {R : DK} : dMulF (.int i) (.int j) G R = (CMul i j ∧ R (.int (i * j)) G) := rfl
theorem vmul_rol {l : List D} {k : Int} {G : DH} {R : DK} : dMulF (.rol l) (.int k) G R = (-(2 ^ 63) ≤ k ∧ k < 2 ^ 63 ∧ l.length * k.toNat ≤ sizeLine ∧ R (.rol (List.replicate k.toNat l).flatten) G) := rfl
theorem vsub_int {i j : Int} {G : DH} {R : DK} : dSub (.int i) (.int j) G R = R (.int (i - j)) G := rfl
theorem vlt_int {i j : Int} {G : DH} {R : DK} : dLt (.int i) (.int j) G R = R (.bl (decide (i < j))) G := rfl
theorem vle_int {i j : Int} {G : DH} {R : DK} : dLe (.int i) (.int j) G R = R (.bl (decide (i ≤ j))) G := rfl
theorem vgt_int {i j : Int} {G : DH} {R : DK} : dGt (.int i) (.int j) G R = R (.bl (decide (i > j))) G := rfl
theorem vge_int {i j : Int} {G : DH} {R : DK} : dGe (.int i) (.int j) G R = R (.bl (decide (i ≥ j))) G := rfl
theorem vmax_int {i j : Int} {G : DH} {R : DK} : dMax2 [.int i, .int j] G R = R (.int (if j > i then j else i)) G := rfl
theorem vmin_int {i j : Int} {G : DH} {R : DK} : dMin2 [.int i, .int j] G R = R (.int (if j < i then j else i)) G := rfl
theorem vneg_int {i : Int} {G : DH} {R : DK} : dNeg (.int i) G R = R (.int (-i)) G := rfl
theorem vlen_tup {l : List D} {G : DH} {R : DK} : dLen [.tup l] G R = R (.int l.length) G := rfl
theorem vlen_rol {l : List D} {G : DH} {R : DK} : dLen [.rol l] G R = R (.int l.length) G := rfl
theorem vlen_at {G : DH} {a : Addr} {l : List D} {R : DK} (h : G a = some (.lst l)) (q : R (.int (l.length : Nat)) G) : dLen [.ref a] G R := by
  have e : lenOf G (.ref a) = some l.length := by
    unfold lenOf
    dsimp only
    rw [h]
  have z : (match lenOf G (.ref a) with
    | some n => R (.int n) G
    | none => False) := by
    rw [e]
    exact q
  exact z
theorem vlen_lst {l : List D} {a : Addr} {G : DH} {R : DK} (h : G a = some (.lst l)) (q : R (.int l.length) G) : dLen [.ref a] G R := vlen_at h q
theorem vtup_rol {l : List D} {G : DH} {R : DK} : dTupC [.rol l] G R = R (.tup l) G := rfl
theorem vtup_tup {l : List D} {G : DH} {R : DK} : dTupC [.tup l] G R = R (.tup l) G := rfl
theorem vlist_rol {l : List D} {G : DH} {R : DK} : dListF [.rol l] G R = R (.rol l) G := rfl
theorem vlist_tup {l : List D} {G : DH} {R : DK} : dListF [.tup l] G R = R (.rol l) G := rfl
theorem vsl_tup {l : List D} {lo hi : Option Int} {G : DH} {R : DK} : sSlF (.tup l) lo hi G R = R (.tup (cutD l lo hi)) G := rfl
theorem vsl_rol {l : List D} {lo hi : Option Int} {G : DH} {R : DK} : sSlF (.rol l) lo hi G R = R (.rol (cutD l lo hi)) G := rfl
theorem vsq_tup {l : List D} {RR : List D → (DH → Prop) → DH → Prop} {i : Nat} {δ : DS} {G : DH} {EX : DX} (e : δ[i]? = some (some (.tup l))) : iSq (dVar i) δ G RR EX = RR l (fun _ => True) G := by
  unfold iSq dVar
  rw [e]
theorem vcut_to {l : List D} {i : Nat} (h : i ≤ l.length) : cutD l none (some (i : Int)) = l.take i := by
  unfold cutD
  rw [HT.sIx_nat, HT.sIx_none, Nat.min_eq_left h, List.drop_zero, Nat.sub_zero]
theorem vcut_from {l : List D} {i : Nat} (h : i ≤ l.length) : cutD l (some (i : Int)) none = l.drop i := by
  unfold Cc.cutD
  rw [HT.sIx_nat, HT.sIx_none, Nat.min_eq_left h]
  rw [List.take_of_length_le]
  rw [List.length_drop]
  omega
theorem visi_non_bool {G : DH} {R : DK} : dIsi [.non, .ty "bool"] G R = R (.bl false) G := by
  have e : kitB "NoneType" "bool" = some false := by decide
  simp only [dIsi, tyD, e]
theorem visi_non_int {G : DH} {R : DK} : dIsi [.non, .ty "int"] G R = R (.bl false) G := by
  have e : kitB "NoneType" "int" = some false := by decide
  simp only [dIsi, tyD, e]
theorem visi_non_str {G : DH} {R : DK} : dIsi [.non, .ty "str"] G R = R (.bl false) G := by
  have e : kitB "NoneType" "str" = some false := by decide
  simp only [dIsi, tyD, e]
theorem visi_non_tuple {G : DH} {R : DK} : dIsi [.non, .ty "tuple"] G R = R (.bl false) G := by
  have e : kitB "NoneType" "tuple" = some false := by decide
  simp only [dIsi, tyD, e]
theorem visi_non_list {G : DH} {R : DK} : dIsi [.non, .ty "list"] G R = R (.bl false) G := by
  have e : kitB "NoneType" "list" = some false := by decide
  simp only [dIsi, tyD, e]
theorem visi_bl_bool {b : Bool} {G : DH} {R : DK} : dIsi [(.bl b), .ty "bool"] G R = R (.bl true) G := by
  have e : kitB "bool" "bool" = some true := by decide
  simp only [dIsi, tyD, e]
theorem visi_bl_int {b : Bool} {G : DH} {R : DK} : dIsi [(.bl b), .ty "int"] G R = R (.bl true) G := by
  have e : kitB "bool" "int" = some true := by decide
  simp only [dIsi, tyD, e]
theorem visi_bl_str {b : Bool} {G : DH} {R : DK} : dIsi [(.bl b), .ty "str"] G R = R (.bl false) G := by
  have e : kitB "bool" "str" = some false := by decide
  simp only [dIsi, tyD, e]
theorem visi_bl_tuple {b : Bool} {G : DH} {R : DK} : dIsi [(.bl b), .ty "tuple"] G R = R (.bl false) G := by
  have e : kitB "bool" "tuple" = some false := by decide
  simp only [dIsi, tyD, e]
theorem visi_bl_list {b : Bool} {G : DH} {R : DK} : dIsi [(.bl b), .ty "list"] G R = R (.bl false) G := by
  have e : kitB "bool" "list" = some false := by decide
  simp only [dIsi, tyD, e]
theorem visi_int_bool {i : Int} {G : DH} {R : DK} : dIsi [(.int i), .ty "bool"] G R = R (.bl false) G := by
  have e : kitB "int" "bool" = some false := by decide
  simp only [dIsi, tyD, e]
theorem visi_int_int {i : Int} {G : DH} {R : DK} : dIsi [(.int i), .ty "int"] G R = R (.bl true) G := by
  have e : kitB "int" "int" = some true := by decide
  simp only [dIsi, tyD, e]
theorem visi_int_str {i : Int} {G : DH} {R : DK} : dIsi [(.int i), .ty "str"] G R = R (.bl false) G := by
  have e : kitB "int" "str" = some false := by decide
  simp only [dIsi, tyD, e]
theorem visi_int_tuple {i : Int} {G : DH} {R : DK} : dIsi [(.int i), .ty "tuple"] G R = R (.bl false) G := by
  have e : kitB "int" "tuple" = some false := by decide
  simp only [dIsi, tyD, e]
theorem visi_int_list {i : Int} {G : DH} {R : DK} : dIsi [(.int i), .ty "list"] G R = R (.bl false) G := by
  have e : kitB "int" "list" = some false := by decide
  simp only [dIsi, tyD, e]
theorem visi_str_bool {z : Str} {G : DH} {R : DK} : dIsi [(.str z), .ty "bool"] G R = R (.bl false) G := by
  have e : kitB "str" "bool" = some false := by decide
  simp only [dIsi, tyD, e]
theorem visi_str_int {z : Str} {G : DH} {R : DK} : dIsi [(.str z), .ty "int"] G R = R (.bl false) G := by
  have e : kitB "str" "int" = some false := by decide
  simp only [dIsi, tyD, e]
theorem visi_str_str {z : Str} {G : DH} {R : DK} : dIsi [(.str z), .ty "str"] G R = R (.bl true) G := by
  have e : kitB "str" "str" = some true := by decide
  simp only [dIsi, tyD, e]
theorem visi_str_tuple {z : Str} {G : DH} {R : DK} : dIsi [(.str z), .ty "tuple"] G R = R (.bl false) G := by
  have e : kitB "str" "tuple" = some false := by decide
  simp only [dIsi, tyD, e]
theorem visi_str_list {z : Str} {G : DH} {R : DK} : dIsi [(.str z), .ty "list"] G R = R (.bl false) G := by
  have e : kitB "str" "list" = some false := by decide
  simp only [dIsi, tyD, e]
theorem visi_tup_bool {l : List D} {G : DH} {R : DK} : dIsi [(.tup l), .ty "bool"] G R = R (.bl false) G := by
  have e : kitB "tuple" "bool" = some false := by decide
  simp only [dIsi, tyD, e]
theorem visi_tup_int {l : List D} {G : DH} {R : DK} : dIsi [(.tup l), .ty "int"] G R = R (.bl false) G := by
  have e : kitB "tuple" "int" = some false := by decide
  simp only [dIsi, tyD, e]
theorem visi_tup_str {l : List D} {G : DH} {R : DK} : dIsi [(.tup l), .ty "str"] G R = R (.bl false) G := by
  have e : kitB "tuple" "str" = some false := by decide
  simp only [dIsi, tyD, e]
theorem visi_tup_tuple {l : List D} {G : DH} {R : DK} : dIsi [(.tup l), .ty "tuple"] G R = R (.bl true) G := by
  have e : kitB "tuple" "tuple" = some true := by decide
  simp only [dIsi, tyD, e]
theorem visi_tup_list {l : List D} {G : DH} {R : DK} : dIsi [(.tup l), .ty "list"] G R = R (.bl false) G := by
  have e : kitB "tuple" "list" = some false := by decide
  simp only [dIsi, tyD, e]
theorem visi_key_bool {l : List Key} {G : DH} {R : DK} : dIsi [(.key l), .ty "bool"] G R = R (.bl false) G := by
  have e : kitB "tuple" "bool" = some false := by decide
  simp only [dIsi, tyD, e]
theorem visi_key_int {l : List Key} {G : DH} {R : DK} : dIsi [(.key l), .ty "int"] G R = R (.bl false) G := by
  have e : kitB "tuple" "int" = some false := by decide
  simp only [dIsi, tyD, e]
theorem visi_key_str {l : List Key} {G : DH} {R : DK} : dIsi [(.key l), .ty "str"] G R = R (.bl false) G := by
  have e : kitB "tuple" "str" = some false := by decide
  simp only [dIsi, tyD, e]
theorem visi_key_tuple {l : List Key} {G : DH} {R : DK} : dIsi [(.key l), .ty "tuple"] G R = R (.bl true) G := by
  have e : kitB "tuple" "tuple" = some true := by decide
  simp only [dIsi, tyD, e]
theorem visi_key_list {l : List Key} {G : DH} {R : DK} : dIsi [(.key l), .ty "list"] G R = R (.bl false) G := by
  have e : kitB "tuple" "list" = some false := by decide
  simp only [dIsi, tyD, e]
theorem visi_rol_bool {l : List D} {G : DH} {R : DK} : dIsi [(.rol l), .ty "bool"] G R = R (.bl false) G := by
  have e : kitB "list" "bool" = some false := by decide
  simp only [dIsi, tyD, e]
theorem visi_rol_int {l : List D} {G : DH} {R : DK} : dIsi [(.rol l), .ty "int"] G R = R (.bl false) G := by
  have e : kitB "list" "int" = some false := by decide
  simp only [dIsi, tyD, e]
theorem visi_rol_str {l : List D} {G : DH} {R : DK} : dIsi [(.rol l), .ty "str"] G R = R (.bl false) G := by
  have e : kitB "list" "str" = some false := by decide
  simp only [dIsi, tyD, e]
theorem visi_rol_tuple {l : List D} {G : DH} {R : DK} : dIsi [(.rol l), .ty "tuple"] G R = R (.bl false) G := by
  have e : kitB "list" "tuple" = some false := by decide
  simp only [dIsi, tyD, e]
theorem visi_rol_list {l : List D} {G : DH} {R : DK} : dIsi [(.rol l), .ty "list"] G R = R (.bl true) G := by
  have e : kitB "list" "list" = some true := by decide
  simp only [dIsi, tyD, e]
theorem vtyL {G : DH} {f : Addr} {l : List D} : tyR (updD G f (.lst l)) "list" (.ref f) = True := by
  unfold tyR
  dsimp only
  rw [updD_same]
  simp
theorem vapp {G : DH} {f : Addr} {l : List D} {y : D} {R : DK} : mAppend (.ref f) [y] (updD G f (.lst l)) R = (l.length < sizeLine ∧ R .non (updD G f (.lst (l ++ [y])))) := by
  unfold mAppend
  refine propext ⟨fun ⟨m, e, h, q⟩ => ?_, fun ⟨h, q⟩ => ⟨l, updD_same, h, by rw [updD_updD]; exact q⟩⟩
  rw [updD_same] at e
  cases e
  rw [updD_updD] at q
  exact ⟨h, q⟩
theorem vlen_upd {G : DH} {f : Addr} {l : List D} {R : DK} : dLen [.ref f] (updD G f (.lst l)) R = R (.int l.length) (updD G f (.lst l)) := by
  have e : lenOf (updD G f (.lst l)) (.ref f) = some l.length := by
    unfold lenOf
    dsimp only
    rw [updD_same]
  simp only [dLen, e]
theorem vix_upd {G : DH} {f : Addr} {l : List D} {i : Int} {R : DK} : dIx (.ref f) (.int i) (updD G f (.lst l)) R = (match L2.atI l i with
  | some d => R d (updD G f (.lst l))
  | none => False) := by
  have e : itemOf (updD G f (.lst l)) (.ref f) (.int i) = L2.atI l i := by
    unfold itemOf
    dsimp only
    rw [updD_same]
  unfold dIx
  rw [e]
  all_goals (cases L2.atI l i <;> rfl)
theorem vsz_0 : (0 ≤ sizeLine) = True := by rw [sizeLine_eq]; simp
theorem vsz_1 : (0 + 1 ≤ sizeLine) = True := by rw [sizeLine_eq]; simp
theorem vsz_2 : (0 + 1 + 1 ≤ sizeLine) = True := by rw [sizeLine_eq]; simp
theorem vsz_3 : (0 + 1 + 1 + 1 ≤ sizeLine) = True := by rw [sizeLine_eq]; simp
theorem vsz_4 : (0 + 1 + 1 + 1 + 1 ≤ sizeLine) = True := by rw [sizeLine_eq]; simp
theorem vsz_5 : (0 + 1 + 1 + 1 + 1 + 1 ≤ sizeLine) = True := by rw [sizeLine_eq]; simp
theorem vsz_6 : (0 + 1 + 1 + 1 + 1 + 1 + 1 ≤ sizeLine) = True := by rw [sizeLine_eq]; simp
theorem vsz_7 : (0 + 1 + 1 + 1 + 1 + 1 + 1 + 1 ≤ sizeLine) = True := by rw [sizeLine_eq]; simp
theorem vsz_8 : (0 + 1 + 1 + 1 + 1 + 1 + 1 + 1 + 1 ≤ sizeLine) = True := by rw [sizeLine_eq]; simp
theorem vsz_9 : (0 + 1 + 1 + 1 + 1 + 1 + 1 + 1 + 1 + 1 ≤ sizeLine) = True := by rw [sizeLine_eq]; simp
/-! loops over what is told by a list of things -/
theorem goFor_map {α : Type} {ok : DH → Prop} {g : DG} {tb : DSt} {Dn : DEnds} {f : α → D} (I : List α → DS → DH → Prop) (hok : ∀ xs δ G, I xs δ G → ok G) (hnil : ∀ δ G, I [] δ G → Dn.nx δ G)
    (hs : ∀ x xs δ G (N : DS → DH → Prop), I (x :: xs) δ G → (∀ δ' G', I xs δ' G' → N δ' G') → g (f x) δ G (fun δ2 G2 => tb { Dn with nx := N, ct := N, bk := Dn.nx } δ2 G2) Dn.ex) :
    ∀ (l : List α) (δ : DS) (G : DH), I l δ G → goFor ok g tb Dn (l.map f) δ G
  | [], δ, G, h => ⟨hok _ _ _ h, hnil _ _ h⟩
  | x :: xs, δ, G, h => ⟨hok _ _ _ h, hs x xs δ G _ h fun δ' G' h' => goFor_map I hok hnil hs xs δ' G' h'⟩
/-- a comprehension that changes nothing -/
theorem goLcF_map {α : Type} {ok : DH → Prop} {g : DG} {tt : DT} {te : DE} {k : List D → DH → Prop} {δ : DS} {G : DH} {f : α → D} (F : α → Option D) (hok : ok G)
    (hs : ∀ (x : α) (C1 : DK) (C2 : DH → Prop), (match F x with
      | none => C2 G
      | some y => C1 y G) → g (f x) δ G (fun δ2 G2 => tt δ2 G2 (fun b G3 => if b = true then te δ2 G3 C1 noX else C2 G3) noX) noX) :
    ∀ (l : List α) (acc : List D), acc.length + l.length ≤ sizeLine → k (acc ++ l.filterMap F) G → goLcF ok g tt te k δ acc (l.map f) G
  | [], acc, _, q => by
    rw [List.filterMap_nil, List.append_nil] at q
    exact ⟨hok, q⟩
  | x :: xs, acc, hl, q => by
    refine ⟨hok, hs x _ _ ?_⟩
    rw [List.length_cons] at hl
    cases e : F x with
    | none =>
      rw [List.filterMap_cons, e] at q
      exact goLcF_map F hok hs xs acc (by omega) q
    | some y =>
      rw [List.filterMap_cons, e] at q
      refine ⟨by omega, goLcF_map F hok hs xs (acc ++ [y]) (by rw [List.length_append]; simp; omega) ?_⟩
      rw [List.append_assoc]
      exact q
/-- .. of the things of the list alone -/
theorem goLcF_mem {α : Type} {ok : DH → Prop} {g : DG} {tt : DT} {te : DE} {k : List D → DH → Prop} {δ : DS} {G : DH} {f : α → D} (F : α → Option D) (hok : ok G) :
    ∀ (l : List α) (acc : List D), (∀ x ∈ l, ∀ (C1 : DK) (C2 : DH → Prop), (match F x with
      | none => C2 G
      | some y => C1 y G) → g (f x) δ G (fun δ2 G2 => tt δ2 G2 (fun b G3 => if b = true then te δ2 G3 C1 noX else C2 G3) noX) noX) → acc.length + l.length ≤ sizeLine → k (acc ++ l.filterMap F) G → goLcF ok g tt te k δ acc (l.map f) G
  | [], acc, _, _, q => by
    rw [List.filterMap_nil, List.append_nil] at q
    exact ⟨hok, q⟩
  | x :: xs, acc, hs, hl, q => by
    refine ⟨hok, hs x List.mem_cons_self _ _ ?_⟩
    rw [List.length_cons] at hl
    have hs' := fun y hy => hs y (List.mem_cons_of_mem _ hy)
    cases e : F x with
    | none =>
      rw [List.filterMap_cons, e] at q
      exact goLcF_mem F hok xs acc hs' (by omega) q
    | some y =>
      rw [List.filterMap_cons, e] at q
      refine ⟨by omega, goLcF_mem F hok xs (acc ++ [y]) hs' (by rw [List.length_append]; simp; omega) ?_⟩
      rw [List.append_assoc]
      exact q
/-- a comprehension by its invariant -/
theorem goLcF_inv {α : Type} {ok : DH → Prop} {g : DG} {tt : DT} {te : DE} {k : List D → DH → Prop} {δ : DS} {f : α → D} (I : List α → List D → DH → Prop) (hok : ∀ xs acc G, I xs acc G → ok G) (hlen : ∀ xs acc G, I xs acc G → acc.length < sizeLine) (hend : ∀ acc G, I [] acc G → k acc G)
    (hs : ∀ (x : α) (xs : List α) (acc : List D) (G : DH) (C1 : DK) (C2 : DH → Prop), I (x :: xs) acc G → (∀ y G', I xs (acc ++ [y]) G' → C1 y G') → (∀ G', I xs acc G' → C2 G') → g (f x) δ G (fun δ2 G2 => tt δ2 G2 (fun b G3 => if b = true then te δ2 G3 C1 noX else C2 G3) noX) noX) :
    ∀ (l : List α) (acc : List D) (G : DH), I l acc G → goLcF ok g tt te k δ acc (l.map f) G
  | [], acc, G, h => ⟨hok _ _ _ h, hend _ _ h⟩
  | x :: xs, acc, G, h => ⟨hok _ _ _ h, hs x xs acc G _ _ h (fun y G' h' => ⟨hlen _ _ _ h, goLcF_inv I hok hlen hend hs xs _ _ h'⟩) fun G' h' => goLcF_inv I hok hlen hend hs xs _ _ h'⟩
theorem rangeD_map (n : Nat) : rangeD 0 n = (List.range n).map fun i : Nat => D.int (i : Int) := by
  unfold rangeD
  refine List.map_congr_left fun i _ => ?_
  rw [Int.zero_add]
theorem sz_small {n : Nat} (h : n ≤ 100000) : n ≤ sizeLine := by rw [sizeLine_eq]; omega
/-- sorted by an int key: a model list -/
theorem sortG_map {α : Type} {f : α → D} {key : α → Int} (l : List α) : sortG PyData.int (l.map f) (l.map key) = (l.mergeSort fun a b => decide (key a ≤ key b)).map f := by
  unfold sortG
  have e : (l.map f).zip (l.map key) = l.map fun x => (f x, key x) := by
    rw [List.zip_map']
  rw [e, PySem.W.dataLe_int (fun b : D × Int => b.2)]
  rw [← List.map_mergeSort (r := fun a b => decide (key a ≤ key b)) (s := fun a b : D × Int => decide (a.2 ≤ b.2)) (f := fun x => (f x, key x)) (l := l) (fun a _ b _ => rfl), List.map_map]
  rfl
end Cc
/-! ### draws, menus, emptiness -/
namespace Cc
open PySem PySem.Spec PyProof.Rows L2
open PySem.W (EachIs AllAlike Sortable dataLe)
theorem off_use {a : Addr} {m : Int} {l : List D} {G : DH} {R : DK} {EX : DX} (dl : Draws l) (m0 : 0 < m) (m1 : m < 1073741824) (q : ∀ r l', 0 ≤ r → r < m → Draws l' → R (.int r) (updD G a (.lst l'))) : sd__law_off [.ref a, .int m] (updD G a (.lst l)) R EX :=
  ⟨a, m, l, rfl, updD_same, dl, m0, m1, fun r l' h0 h1 dl' => by rw [updD_updD]; exact q r l' h0 h1 dl'⟩
/-- .. some other cell was stored behind the draws' -/
theorem off_use2 {a f : Addr} {c : C} {m : Int} {l : List D} {G : DH} {R : DK} {EX : DX} (ne : f ≠ a) (dl : Draws l) (m0 : 0 < m) (m1 : m < 1073741824) (q : ∀ r l', 0 ≤ r → r < m → Draws l' → R (.int r) (updD (updD G a (.lst l')) f c)) : sd__law_off [.ref a, .int m] (updD (updD G a (.lst l)) f c) R EX :=
  ⟨a, m, l, rfl, by rw [updD_ne (Ne.symm ne)]; exact updD_same, dl, m0, m1, fun r l' h0 h1 dl' => by rw [updD_comm ne, updD_updD]; exact q r l' h0 h1 dl'⟩
theorem menu2 {i j r : Int} {G : DH} {R : DK} (h0 : 0 ≤ r) (h1 : r < 2) (q : ∀ x, x = i ∨ x = j → R (.int x) G) : dIx (.rol [.int i, .int j]) (.int r) G R := by
  rw [vix_rol]
  rcases (show r = 0 ∨ r = 1 by omega) with rfl | rfl
  · rw [vat_0]; exact q _ (.inl rfl)
  · rw [vat_1]; exact q _ (.inr rfl)
theorem menu3 {i j k r : Int} {G : DH} {R : DK} (h0 : 0 ≤ r) (h1 : r < 3) (q : ∀ x, x = i ∨ x = j ∨ x = k → R (.int x) G) : dIx (.rol [.int i, .int j, .int k]) (.int r) G R := by
  rw [vix_rol]
  rcases (show r = 0 ∨ r = 1 ∨ r = 2 by omega) with rfl | rfl | rfl
  · rw [vat_0]; exact q _ (.inl rfl)
  · rw [vat_1]; exact q _ (.inr (.inl rfl))
  · rw [vat_2]; exact q _ (.inr (.inr rfl))
theorem menuD {l : List D} {r : Int} {G : DH} {R : DK} (h0 : 0 ≤ r) (h1 : r < l.length) (q : ∀ x ∈ l, R x G) : dIx (.rol l) (.int r) G R := by
  rw [vix_rol]
  obtain ⟨d, hd, e⟩ := atI_mem h0 h1
  rw [e]
  exact q d hd
theorem eqv_nil (xs : List PyData) : PyData.eqv (.list xs) (.list []) = xs.isEmpty := by
  cases xs <;> simp [PyData.eqv, PyData.eqvAll]
theorem shaped_nil : SeqAt.shaped (.list []) = true := by simp [SeqAt.shaped, PyData.canLay0, PyData.canLayAll0, PyData.depth, PyData.depthAll]
theorem vne_nil {l : List D} {ts : List PyData} {G : DH} {R : DK} (h : RddL G l ts) (s : SeqAt.shaped (.list ts) = true) (q : R (.bl (!l.isEmpty)) G) : dNe (.rol l) (.rol []) G R := by
  refine ⟨.list ts, .list [], .rol h, .rol .nil, s, shaped_nil, ?_⟩
  rw [eqv_nil]
  have : ts.isEmpty = l.isEmpty := by
    have := h.len
    cases l <;> cases ts <;> first | rfl | cases this
  rw [this]
  exact q
theorem veq_nil {l : List D} {ts : List PyData} {G : DH} {R : DK} (h : RddL G l ts) (s : SeqAt.shaped (.list ts) = true) (q : R (.bl l.isEmpty) G) : dEq (.rol l) (.rol []) G R := by
  refine ⟨.list ts, .list [], .rol h, .rol .nil, s, shaped_nil, ?_⟩
  rw [eqv_nil]
  have : ts.isEmpty = l.isEmpty := by
    have := h.len
    cases l <;> cases ts <;> first | rfl | cases this
  rw [this]
  exact q
/-- the same data on both sides -/
theorem vne_self {l m : List D} {ts : List PyData} {G : DH} {R : DK} (h : RddL G l ts) (h' : RddL G m ts) (s : SeqAt.shaped (.list ts) = true) (q : R (.bl false) G) : dNe (.rol l) (.rol m) G R := by
  refine ⟨.list ts, .list ts, .rol h, .rol h', s, s, ?_⟩
  rw [SeqAt.eqv_refl _ (by unfold SeqAt.shaped at s; rw [Bool.and_eq_true] at s; exact s.1)]
  exact q
theorem draws_sub {G G' : DH} {a : Addr} {l : List D} (s : Sub G G') (h : G a = some (.lst l)) : G' a = some (.lst l) := s _ _ h
theorem pow_int {i : Int} {n : Nat} {G : DH} {R : DK} (h : CPow i n) (q : R (.int (i ^ n)) G) : dPow (.int i) (.int n) G R := ⟨h, by simpa using q⟩
end Cc
/-! ### a list against the empty list: its items do not matter -/
namespace Cc
open PySem PySem.Spec PyProof.Rows L2
section
variable {X : Cx}
def rEqE (K : PySem.W.Frag) : R2 := fun x y H Q => ∃ a b xs, x = .ref a ∧ y = .ref b ∧ SqL K H a xs ∧ SqL K H b [] ∧ Q (.bl xs.isEmpty) H
def rNeE (K : PySem.W.Frag) : R2 := fun x y H Q => ∃ a b xs, x = .ref a ∧ y = .ref b ∧ SqL K H a xs ∧ SqL K H b [] ∧ Q (.bl (!xs.isEmpty)) H
theorem op_eqE (hu : X.A.units + 64 < cLine) : OpR X (compareOp .Eq) (rEqE X.K) := by
  intro pins s σ H x y v u Q I rx ry h
  obtain ⟨a, b, xs, rfl, rfl, ha, hb, q⟩ := h
  cases rx
  cases ry
  obtain ⟨its, rv, p, _⟩ := I.list ha
  obtain ⟨its2, rv2, p2, _⟩ := I.list hb
  cases rv2
  cases rv with
  | nil =>
    refine SeqAt.RcAt.lists (e := fun _ => true) p.isList p2.isList rfl (by omega) (fun j h1 _ => absurd h1 (by simp)) _ _ _ _ ?_
    exact ⟨.bl true, H, I, rfl, q⟩
  | cons r1 r2 =>
    refine SeqAt.RcAt.lists_lengths p.isList p2.isList (by simp) (by omega) _ _ _ _ ?_
    exact ⟨.bl false, H, I, rfl, q⟩
theorem op_neE (hu : X.A.units + 64 < cLine) : OpR X (compareOp .NotEq) (rNeE X.K) := by
  intro pins s σ H x y v u Q I rx ry h
  obtain ⟨a, b, xs, rfl, rfl, ha, hb, q⟩ := h
  cases rx
  cases ry
  obtain ⟨its, rv, p, _⟩ := I.list ha
  obtain ⟨its2, rv2, p2, _⟩ := I.list hb
  cases rv2
  cases rv with
  | nil =>
    refine SeqAt.RcNeAt.lists (e := fun _ => true) p.isList p2.isList rfl (by omega) (fun j h1 _ => absurd h1 (by simp)) _ _ _ _ ?_
    exact ⟨.bl false, H, I, rfl, q⟩
  | cons r1 r2 =>
    refine SeqAt.RcNeAt.lists_lengths p.isList p2.isList (by simp) (by omega) _ _ _ _ ?_
    exact ⟨.bl true, H, I, rfl, q⟩
def dEqE : D2 := fun x y G R => match x, y with
  | .rol l, .rol [] => R (.bl l.isEmpty) G
  | .ref a, .rol [] => ∃ l, G a = some (.lst l) ∧ R (.bl l.isEmpty) G
  | _, _ => False
def dNeE : D2 := fun x y G R => match x, y with
  | .rol l, .rol [] => R (.bl (!l.isEmpty)) G
  | .ref a, .rol [] => ∃ l, G a = some (.lst l) ∧ R (.bl (!l.isEmpty)) G
  | _, _ => False
theorem DvL.isE {K : KT} {H : Hp} {xs : List V} {l : List D} (h : DvL K H xs l) : xs.isEmpty = l.isEmpty := by
  cases h <;> rfl
theorem od_eqE (hu : X.A.units + 64 < cLine) : OD X (compareOp .Eq) dEqE := ⟨_, op_eqE hu, fun T x y H d e G R Q hr rx ry q cr => by
  unfold dEqE at q
  split at q
  · cases rx with
    | rol hq r =>
      cases ry with
      | rol hq2 r2 =>
        cases r2
        exact ⟨_, _, _, rfl, rfl, hq.sqL, hq2.sqL, cr _ _ _ _ (Up.refl H) hr (.bl _) (by rw [r.isE]; exact q)⟩
  · cases rx
    cases ry with
    | rol hq2 r2 =>
      cases r2
      obtain ⟨l, e1, q⟩ := q
      obtain ⟨xs, e2, r⟩ := hr _ _ e1
      exact ⟨_, _, _, rfl, rfl, SqL.of e2, hq2.sqL, cr _ _ _ _ (Up.refl H) hr (.bl _) (by rw [r.isE]; exact q)⟩
  · exact False.elim q⟩
theorem od_neE (hu : X.A.units + 64 < cLine) : OD X (compareOp .NotEq) dNeE := ⟨_, op_neE hu, fun T x y H d e G R Q hr rx ry q cr => by
  unfold dNeE at q
  split at q
  · cases rx with
    | rol hq r =>
      cases ry with
      | rol hq2 r2 =>
        cases r2
        exact ⟨_, _, _, rfl, rfl, hq.sqL, hq2.sqL, cr _ _ _ _ (Up.refl H) hr (.bl _) (by rw [r.isE]; exact q)⟩
  · cases rx
    cases ry with
    | rol hq2 r2 =>
      cases r2
      obtain ⟨l, e1, q⟩ := q
      obtain ⟨xs, e2, r⟩ := hr _ _ e1
      exact ⟨_, _, _, rfl, rfl, SqL.of e2, hq2.sqL, cr _ _ _ _ (Up.refl H) hr (.bl _) (by rw [r.isE]; exact q)⟩
  · exact False.elim q⟩
theorem veqE_rol {l : List D} {G : DH} {R : DK} : dEqE (.rol l) (.rol []) G R = R (.bl l.isEmpty) G := rfl
theorem vneE_rol {l : List D} {G : DH} {R : DK} : dNeE (.rol l) (.rol []) G R = R (.bl (!l.isEmpty)) G := rfl
end
/-! ### cells by tags -/
/-- the cells that the tags tell, all apart -/
structure AtF {T : Type} (G : DH) (f : T → Option (Addr × C)) : Prop where
  at_ : ∀ t a c, f t = some (a, c) → G a = some c
  ne : ∀ t t' a c c', f t = some (a, c) → f t' = some (a, c') → t = t'
namespace AtF
variable {T : Type} {G G' : DH} {f f' : T → Option (Addr × C)} {t : T} {a : Addr} {c c' : C}
theorem sub (h : AtF G f) (s : Sub G G') : AtF G' f := ⟨fun t a c e => s _ _ (h.at_ t a c e), h.ne⟩
theorem less (h : AtF G f) (s : ∀ t p, f' t = some p → f t = some p) : AtF G f' := ⟨fun t a c e => h.at_ t a c (s _ _ e), fun t t' a c c' e e' => h.ne t t' a c c' (s _ _ e) (s _ _ e')⟩
/-- one cell is written -/
theorem upd (h : AtF G f) (e : f t = some (a, c)) (e' : f' t = some (a, c')) (r : ∀ s, s ≠ t → f' s = f s) : AtF (updD G a c') f' := by
  have key : ∀ s b d, f' s = some (b, d) → ∃ d0, f s = some (b, d0) := fun s b d hs => by
    by_cases hst : s = t
    · subst hst
      rw [e'] at hs
      cases hs
      exact ⟨_, e⟩
    · rw [r s hst] at hs
      exact ⟨_, hs⟩
  refine ⟨fun s b d hs => ?_, fun s s' b d d' hs hs' => ?_⟩
  · by_cases hst : s = t
    · subst hst
      rw [e'] at hs
      cases hs
      exact updD_same
    · rw [r s hst] at hs
      rw [updD_ne]
      · exact h.at_ _ _ _ hs
      · intro hb
        subst hb
        exact hst (h.ne _ _ _ _ _ hs e)
  · obtain ⟨_, h1⟩ := key _ _ _ hs
    obtain ⟨_, h2⟩ := key _ _ _ hs'
    exact h.ne _ _ _ _ _ h1 h2
/-- one cell is new -/
theorem new (h : AtF G f) (n : G a = none) (e' : f' t = some (a, c)) (r : ∀ s, s ≠ t → f' s = f s) : AtF (updD G a c) f' := by
  have ap : ∀ s b d, s ≠ t → f' s = some (b, d) → G b = some d ∧ b ≠ a := fun s b d hst hs => by
    rw [r s hst] at hs
    have hb := h.at_ _ _ _ hs
    exact ⟨hb, neD hb n⟩
  refine ⟨fun s b d hs => ?_, fun s s' b d d' hs hs' => ?_⟩
  · by_cases hst : s = t
    · subst hst
      rw [e'] at hs
      cases hs
      exact updD_same
    · obtain ⟨h1, h2⟩ := ap s b d hst hs
      rw [updD_ne h2]
      exact h1
  · by_cases hst : s = t
    · by_cases hst' : s' = t
      · rw [hst, hst']
      · subst hst
        rw [e'] at hs
        cases hs
        exact absurd rfl (ap s' _ _ hst' hs').2
    · by_cases hst' : s' = t
      · subst hst'
        rw [e'] at hs'
        cases hs'
        exact absurd rfl (ap s _ _ hst hs).2
      · rw [r s hst] at hs
        rw [r s' hst'] at hs'
        exact h.ne _ _ _ _ _ hs hs'
end AtF
end Cc
/-! setting a cell -/
namespace Cc
open PySem PySem.Spec PyProof.Rows L2
def setc {T : Type} [DecidableEq T] (f : T → Option (Addr × C)) (t : T) (p : Addr × C) : T → Option (Addr × C) := fun s => if s = t then some p else f s
theorem setc_same {T : Type} [DecidableEq T] {f : T → Option (Addr × C)} {t : T} {p : Addr × C} : setc f t p t = some p := if_pos rfl
theorem setc_ne {T : Type} [DecidableEq T] {f : T → Option (Addr × C)} {t s : T} {p : Addr × C} (h : s ≠ t) : setc f t p s = f s := if_neg h
namespace AtF
variable {T : Type} [DecidableEq T] {G : DH} {f f' : T → Option (Addr × C)} {t : T} {a : Addr} {c c' : C}
theorem new' (h : AtF G f) (n : G a = none) (t : T) (c : C) : AtF (updD G a c) (setc f t (a, c)) := h.new n setc_same fun s hs => setc_ne hs
theorem upd' (h : AtF G f) (e : f t = some (a, c)) (c' : C) : AtF (updD G a c') (setc f t (a, c')) := h.upd e setc_same fun s hs => setc_ne hs
theorem cong (h : AtF G f) (e : ∀ s, f' s = f s) : AtF G f' := by
  have : f' = f := funext e
  rw [this]; exact h
theorem get (h : AtF G f) (e : f t = some (a, c)) : G a = some c := h.at_ _ _ _ e
theorem ap {t' : T} {b : Addr} (h : AtF G f) (e : f t = some (a, c)) (e' : f t' = some (b, c')) (n : t ≠ t') : a ≠ b := fun z => by
  subst z
  exact n (h.ne _ _ _ _ _ e e')
end AtF
end Cc
/-! ### dicts: {}, get, setdefault, d[k] = v, sorted(d); targets o.f -/
namespace Cc
open PySem PySem.Spec PyProof.Rows L2
section
variable {X : Cx} {E : EK} {o e f : Expr} {pos apos cpos : Pos} {da db dc : DE}
/-- {}, its keys ints or texts -/
def dNewK : DE := fun _ G R _ => ∀ p, G p = none → R (.ref p) (updD G p (.dK []))
/-- {}, its keys tuples -/
def dNewT : DE := fun _ G R _ => ∀ p, G p = none → R (.ref p) (updD G p (.dT []))
theorem pd_newK : PD X E (.Dict [] [] pos) dNewK :=
  ⟨imE pe_dnewK fun σ H Q ⟨δ, G, R, EX, sr, hr, h, cr, cx⟩ => fun p hp => cr _ _ _ _ (Up.new hp) (hr.new (c := .dK []) hp ⟨[], upd_same, .nil⟩) (.ref p) (h p (hr.none hp))⟩
theorem pd_newT : PD X E (.Dict [] [] pos) dNewT :=
  ⟨imE pe_dnewT fun σ H Q ⟨δ, G, R, EX, sr, hr, h, cr, cx⟩ => fun p hp => cr _ _ _ _ (Up.new hp) (hr.new (c := .dT []) hp ⟨[], upd_same, .nil⟩) (.ref p) (h p (hr.none hp))⟩
/-- x is a dict -/
def isDict (G : DH) (x : D) : Prop := match x with
  | .ref a => (match G a with
    | some (.dK _) => True
    | some (.dT _) => True
    | _ => False)
  | .rod _ => True
  | _ => False
/-- what a dict holds of y -/
def getOf (G : DH) (x y : D) : Option (Option D) := match x with
  | .ref a => (match G a with
    | some (.dK kvs) => y.ky.map (lookK kvs)
    | some (.dT kvs) => (match y with
      | .key ks => some (lookK kvs ks)
      | _ => none)
    | _ => none)
  | .rod kvs => y.ky.map (lookK kvs)
  | _ => none
theorem isDict_v {K : KT} {G : DH} {H : Hp} {v : V} {x : D} (hr : HRel K G H) (r : Dv K H v x) (h : isDict G x) : ∃ a, v = .ref a ∧ IsD H a := by
  unfold isDict at h
  split at h
  · cases r
    split at h
    · rename_i a kvs ea
      obtain ⟨ys, e, _⟩ := hr _ _ ea
      exact ⟨_, rfl, .inl ⟨ys, .inl e⟩⟩
    · rename_i a kvs ea
      obtain ⟨ys, e, _⟩ := hr _ _ ea
      exact ⟨_, rfl, .inr ⟨ys, .inl e⟩⟩
    · exact False.elim h
  · cases r with
    | rod hq _ =>
      obtain ⟨o, hq⟩ := hq
      exact ⟨_, rfl, .inl ⟨_, .inr ⟨o, hq⟩⟩⟩
  · exact False.elim h
theorem getOf_v {K : KT} {G : DH} {H : Hp} {v w : V} {x y : D} {r : Option D} (hr : HRel K G H) (rx : Dv K H v x) (ry : Dv K H w y) (h : getOf G x y = some r) :
    ∃ a u, v = .ref a ∧ DGet H a w u ∧ (∀ d, r = some d → ∃ z, u = some z ∧ Dv K H z d) ∧ (r = none → u = none) := by
  have lk : ∀ {κ : Type} [DecidableEq κ] {ys : List (κ × V)} {kvs : List (κ × D)} (k : κ), KVr K H ys kvs → (∀ d, lookK kvs k = some d → ∃ z, valV ys k = some z ∧ Dv K H z d) ∧ (lookK kvs k = none → valV ys k = none) := fun k r => ⟨fun d e => r.look e, fun e => r.lookN e⟩
  unfold getOf at h
  split at h
  · cases rx
    split at h
    · rename_i a kvs ea
      obtain ⟨k, e1, e2⟩ := Option.map_eq_some_iff.mp h
      obtain ⟨ys, e3, r3⟩ := hr _ _ ea
      subst e2
      rw [ky_v ry e1]
      exact ⟨_, _, rfl, DGet.k e3, (lk k r3).1, (lk k r3).2⟩
    · rename_i a kvs ea
      split at h
      · cases h
        cases ry with
        | key eb =>
          obtain ⟨ys, e3, r3⟩ := hr _ _ ea
          exact ⟨_, _, rfl, DGet.t e3 eb, (lk _ r3).1, (lk _ r3).2⟩
      · cases h
    · cases h
  · obtain ⟨k, e1, e2⟩ := Option.map_eq_some_iff.mp h
    subst e2
    rw [ky_v ry e1]
    cases rx with
    | rod hq r3 =>
      obtain ⟨o, hq⟩ := hq
      exact ⟨_, _, rfl, .inl ⟨_, k, .inr ⟨o, hq⟩, rfl, rfl⟩, (lk k r3.kvr).1, (lk k r3.kvr).2⟩
  · cases h
/-- d.get(y, z) -/
def dGet2 (da db dc : DE) : DE := fun δ G R EX => da δ G (fun x G1 => isDict G1 x ∧ db δ G1 (fun y G2 => dc δ G2 (fun z G3 => match getOf G3 x y with
  | some r => R (r.getD z) G3
  | none => False) EX) EX) EX
theorem pd_get2 (hu : X.A.units + 1 < cLine) (ha : PD X E o da) (hb : PD X E e db) (hc : PD X E f dc) (m : M2 X o "get" apos e f cpos) : PD X E (.Call (.Attribute o "get" apos) [e, f] [] cpos) (dGet2 da db dc) :=
  ⟨imE (pe_dget2 hu ha.pe hb.pe hc.pe m) fun σ H Q ⟨δ, G, R, EX, sr, hr, h, cr, cx⟩ => ⟨δ, G, _, EX, sr, hr, h, fun v H1 x G1 u1 h1 r1 ⟨q0, q1⟩ => by
    obtain ⟨a, e1, e2⟩ := isDict_v h1 r1 q0
    refine ⟨a, e1, e2, δ, G1, _, EX, sr.up u1, h1, q1, fun w H2 y G2 u2 h2 r2 q2 => ⟨δ, G2, _, EX, sr.up (u1.trans u2), h2, q2, fun w3 H3 z G3 u3 h3 r3 q3 => ?_, cx.up (u1.trans u2)⟩, cx.up u1⟩
    dsimp only at q3
    split at q3
    · rename_i r er
      obtain ⟨a', u, e3, e4, e5, e6⟩ := getOf_v h3 (r1.up (u2.trans u3)) (r2.up u3) er
      rw [e1] at e3
      cases e3
      have u123 := u1.trans (u2.trans u3)
      cases r with
      | none =>
        rw [e6 rfl] at e4
        exact ⟨none, e4, cr _ _ _ _ u123 h3 r3 q3⟩
      | some d =>
        obtain ⟨z', e7, e8⟩ := e5 d rfl
        rw [e7] at e4
        exact ⟨some z', e4, cr _ _ _ _ u123 h3 e8 q3⟩
    · exact False.elim q3, cx⟩⟩
/-- in its place, or at the end -/
def putD {κ : Type} [DecidableEq κ] (kvs : List (κ × D)) (k : κ) (v : D) : List (κ × D) :=
  if (kvs.any fun kv => decide (kv.1 = k)) = true then kvs.map (fun kv => if kv.1 = k then (kv.1, v) else kv) else kvs ++ [(k, v)]
theorem KVr.any {K : KT} {H : Hp} {κ : Type} [DecidableEq κ] {xs : List (κ × V)} {ys : List (κ × D)} (k : κ) (r : KVr K H xs ys) : (xs.any fun kv => decide (kv.1 = k)) = (ys.any fun kv => decide (kv.1 = k)) := by
  induction r with
  | nil => rfl
  | @cons p q l m h t ih => rw [List.any_cons, List.any_cons, ih, h.1]
theorem KVr.app {K : KT} {H : Hp} {κ : Type} {xs xs' : List (κ × V)} {ys ys' : List (κ × D)} (r : KVr K H xs ys) (r' : KVr K H xs' ys') : KVr K H (xs ++ xs') (ys ++ ys') := by
  induction r with
  | nil => exact r'
  | @cons p q l m h t ih => exact .cons h ih
theorem KVr.mapPut {K : KT} {H : Hp} {κ : Type} [DecidableEq κ] {xs : List (κ × V)} {ys : List (κ × D)} {k : κ} {v : V} {d : D} (rv : Dv K H v d) (r : KVr K H xs ys) : KVr K H (xs.map fun kv => if kv.1 = k then (kv.1, v) else kv) (ys.map fun kv => if kv.1 = k then (kv.1, d) else kv) := by
  induction r with
  | nil => exact .nil
  | @cons p q l m h t ih =>
    rw [List.map_cons, List.map_cons]
    refine .cons ?_ ih
    by_cases hk : q.1 = k
    · rw [if_pos hk, if_pos (h.1.trans hk)]
      exact ⟨h.1, rv⟩
    · rw [if_neg hk, if_neg fun z => hk (h.1 ▸ z)]
      exact h
theorem KVr.putD {K : KT} {H : Hp} {κ : Type} [DecidableEq κ] {xs : List (κ × V)} {ys : List (κ × D)} {k : κ} {v : V} {d : D} (rv : Dv K H v d) (r : KVr K H xs ys) : KVr K H (putK xs k v) (Cc.putD ys k d) := by
  unfold putK Cc.putD
  rw [r.any k]
  split
  · exact r.mapPut rv
  · exact r.app (.cons ⟨rfl, rv⟩ .nil)
/-- d.setdefault(y, z), its keys ints or texts -/
def dSetd (da db dc : DE) : DE := fun δ G R EX => da δ G (fun x G1 => isDict G1 x ∧ db δ G1 (fun y G2 => dc δ G2 (fun z G3 => ∃ a kvs k, x = .ref a ∧ G3 a = some (.dK kvs) ∧ y.ky = some k ∧ kvs.length < sizeLine ∧ (match lookK kvs k with
  | some v => R v G3
  | none => R z (updD G3 a (.dK (putD kvs k z))))) EX) EX) EX
theorem pd_setd (ha : PD X E o da) (hb : PD X E e db) (hc : PD X E f dc) (m : M2 X o "setdefault" apos e f cpos) : PD X E (.Call (.Attribute o "setdefault" apos) [e, f] [] cpos) (dSetd da db dc) :=
  ⟨imE (pe_dsetd ha.pe hb.pe hc.pe m) fun σ H Q ⟨δ, G, R, EX, sr, hr, h, cr, cx⟩ => ⟨δ, G, _, EX, sr, hr, h, fun v H1 x G1 u1 h1 r1 ⟨q0, q1⟩ => by
    obtain ⟨a, e1, e2⟩ := isDict_v h1 r1 q0
    refine ⟨a, e1, e2, δ, G1, _, EX, sr.up u1, h1, q1, fun w H2 y G2 u2 h2 r2 q2 => ⟨δ, G2, _, EX, sr.up (u1.trans u2), h2, q2, fun w3 H3 z G3 u3 h3 r3 q3 => ?_, cx.up (u1.trans u2)⟩, cx.up u1⟩
    obtain ⟨a', kvs, k, ex, ea, ek, hl, q3⟩ := q3
    subst ex
    cases r1
    cases e1
    obtain ⟨ys, e3, r4⟩ := h3 _ _ ea
    have u123 := u1.trans (u2.trans u3)
    have u : ∀ o, Up H3 (upd H3 _ o) := fun o => Up.put e3 trivial
    refine ⟨ys, k, e3, ky_v (r2.up u3) ek, by rw [r4.len]; exact hl, fun z' hz => ?_, fun hz => ?_⟩
    · cases el : lookK kvs k with
      | none => rw [r4.lookN el] at hz; cases hz
      | some d =>
        rw [el] at q3
        obtain ⟨z2, e5, e6⟩ := r4.look el
        rw [hz] at e5
        cases e5
        exact cr _ _ _ _ u123 h3 e6 q3
    · cases el : lookK kvs k with
      | some d =>
        obtain ⟨z2, e5, e6⟩ := r4.look el
        rw [hz] at e5
        cases e5
      | none =>
        rw [el] at q3
        exact cr _ _ _ _ (u123.trans (u _)) (h3.put (c := .dK (putD kvs k z)) e3 trivial ⟨_, upd_same, KVr.putD (r3.up (u _)) (r4.up (u _))⟩) (r3.up (u _)) q3, cx⟩⟩
/-- stores by key -/
def rSetD : TSet := fun o i v H R => ∃ a H', o = .ref a ∧ DPut H a i v H' ∧ R H'
theorem set_dict (hu : X.A.units + 1 < cLine) : PSet X rSetD := fun pins s σ H o i v ov iv u Q I ro ri rv ⟨a, H', eo, g, q⟩ => by
  subst eo
  obtain rfl : ov = Value.ref a := ro
  exact d_setItem hu I g ri rv fun s' I' => ⟨H', I', q⟩
def dSetD : DSet := fun o i v G R => match o with
  | .ref a => (match G a with
    | some (.dK kvs) => ∃ k, i.ky = some k ∧ kvs.length < sizeLine ∧ R (updD G a (.dK (putD kvs k v)))
    | some (.dT kvs) => (match i with
      | .key ks => kvs.length < sizeLine ∧ R (updD G a (.dT (putD kvs ks v)))
      | _ => False)
    | _ => False)
  | _ => False
theorem set_dictD (hu : X.A.units + 1 < cLine) : PSet X rSetD ∧ ∀ T, LiftSet (X.K, T) rSetD dSetD := ⟨set_dict hu, fun T o i v H d e f G R Q hr ro ri rv q k => by
  unfold dSetD at q
  split at q
  · cases ro
    split at q
    · rename_i a kvs ea
      obtain ⟨kk, ek, hl, q⟩ := q
      obtain ⟨ys, h1, h2⟩ := hr _ _ ea
      have u : ∀ o, Up H (upd H _ o) := fun o => Up.put h1 trivial
      exact ⟨_, _, rfl, .inl ⟨ys, kk, h1, ky_v ri ek, by rw [h2.len]; exact hl, rfl⟩, k _ _ (u _) (hr.put (c := .dK _) h1 trivial ⟨_, upd_same, KVr.putD (rv.up (u _)) (h2.up (u _))⟩) q⟩
    · rename_i a kvs ea
      split at q
      · cases ri with
        | key eb =>
          obtain ⟨hl, q⟩ := q
          obtain ⟨ys, h1, h2⟩ := hr _ _ ea
          have u : ∀ o, Up H (upd H _ o) := fun o => Up.put h1 trivial
          exact ⟨_, _, rfl, .inr ⟨ys, _, _, h1, rfl, eb, by rw [h2.len]; exact hl, rfl⟩, k _ _ (u _) (hr.put (c := .dT _) h1 trivial ⟨_, upd_same, KVr.putD (rv.up (u _)) (h2.up (u _))⟩) q⟩
      · exact False.elim q
    · exact False.elim q
  · exact False.elim q⟩
/-- o.f as a target -/
def gF (Cl : Addr) (f : Str) (da : DE) : DG := fun v δ G R EX => da δ G (fun o G1 => match o with
  | .ref a => (match G1 a with
    | some (.ins c fs) => c = Cl ∧ fs.length < 1000 ∧ R δ (updD G1 a (.ins c (putFD f v fs)))
    | _ => False)
  | _ => False) EX
def gFldV (K : PySem.W.Frag) (to : TE) (f : Str) : TG := fun v σ H Q => to σ H fun x H1 => ∃ a C dx fs, x = .ref a ∧ H1 a = some (.ins C dx fs) ∧ Cls K C ∧ NoAttr K C f ∧ fs.length < 1000 ∧ Q σ (upd H1 a (.ins C dx (L2.putF f v fs)))
theorem pg_fld {to : TE} {n : Str} (ho : PE X o to) : PG X (.Attribute o n pos) (gFldV X.K to n) := by
  refine ⟨fun pins s σ H v u Q I r h => ?_⟩
  rw [assign_Attribute]
  refine wpAny_bind (wpAny_holding (thn (ho.run pins s σ H _ I h) fun ov s1 ⟨x, H1, I1, r1, a, C, dx, fs, ex, ea, c, na, l, q⟩ => ?_))
  subst ex
  obtain rfl : ov = Value.ref a := r1
  refine wpAny_bind (wpAny_standAt (wpAny_bind (wpAny_holding (setattr_ok I1 ea c na l r fun s3 I3 => ?_))))
  exact wpAny_release ⟨σ, _, I3, q⟩
theorem pdg_fld {Cl : Addr} {n : Str} (cl : Cls X.K Cl) (na : NoAttr X.K Cl n) (ha : PD X E o da) : PDG X E (.Attribute o n pos) (gF Cl n da) :=
  ⟨imG (pg_fld ha.pe) fun v σ H Q ⟨d, δ, G, R, EX, dv, sr, hr, h, cr, cx⟩ => ⟨δ, G, _, EX, sr, hr, h, fun x H1 y G1 u1 h1 r1 q1 => by
    dsimp only at q1
    split at q1
    · cases r1
      split at q1
      · rename_i a c fs ea
        obtain ⟨hc, hl, q1⟩ := q1
        subst hc
        obtain ⟨dx, ys, e1, e2⟩ := h1 _ _ ea
        have u : ∀ o, Up H1 (upd H1 _ o) := fun o => Up.put e1 trivial
        exact ⟨_, _, dx, ys, rfl, e1, cl, na, by rw [e2.len]; exact hl, cr _ _ _ _ (u1.trans (u _)) (sr.up (u1.trans (u _))) (h1.put (c := .ins _ (putFD n d fs)) e1 trivial ⟨dx, _, upd_same, KVr.putF (dv.up (u1.trans (u _))) (e2.up (u _))⟩) q1⟩
      · exact False.elim q1
    · exact False.elim q1, cx⟩⟩
end
end Cc
/-! ### plain tuples; dict(pairs), sorted(dict), len(set(tuple)) -/
namespace Cc
open PySem PySem.Spec PyProof.Rows L2
section
variable {X : Cx} {E : EK} {e : Expr} {es : List Expr} {pos : Pos} {da db dc : DE} {dl : DA}
/-! tuples that are known to have no dict -/
def PT (H : Hp) (a : Addr) (xs : List V) : Prop := ∃ o : Obj, H a = some (.frz o (.tup xs)) ∧ o.dict = none
def tTupP (t : TA) : TE := fun σ H Q => t σ H fun xs H1 => xs.length ≤ sizeLine ∧ ∀ p o, H1 p = none → o.dict = none → Q (.ref p) (upd H1 p (.frz o (.tup xs)))
theorem pe_tupP {x1} {t : TA} (h : PA X es t) : PE X (.Tuple es x1 pos) (tTupP t) := by
  refine ⟨fun pins s σ H Q I hq => ?_⟩
  refine wpAny_Tuple_spliced (thn (h.run pos pins s σ H _ I hq) fun us s1 ⟨xs, H1, I1, r, z, q⟩ => ⟨by rw [← r.length]; exact z, ?_⟩)
  have hf : H1 s1.heap.objs.size = none := I1.hok.fresh (Nat.le_refl _)
  refine ⟨.ref s1.heap.objs.size, upd H1 s1.heap.objs.size (.frz { cls := .type "tuple", data := .seq us.toArray } (.tup xs)), I1.laid (t' := s1.toks) (fun b u e => Heap.get?_push_of_some _ e) (Nat.le_refl _) ?_, rfl, q _ _ hf rfl⟩
  exact ⟨Heap.get?_push_size _ rfl, z, us, r, ⟨_, Heap.get?_push_size _ rfl, rfl, _, rfl⟩⟩
def dTupP (dl : DA) : DE := fun δ G R EX => dl δ G (fun xs G1 => xs.length ≤ sizeLine ∧ R (.ptp xs) G1) EX
theorem pd_tupP {x1} (h : PDA X E es dl) : PD X E (.Tuple es x1 pos) (dTupP dl) :=
  ⟨imE (pe_tupP h.pa) fun σ H Q ⟨δ, G, R, EX, sr, hr, h, cr, cx⟩ => ⟨δ, G, _, EX, sr, hr, h, fun xs H1 l G1 u1 h1 r1 ⟨z, q1⟩ => ⟨by rw [r1.length]; exact z, fun p o hp hd =>
    cr _ _ _ _ (u1.trans (Up.new hp)) (h1.new0 hp) (.ptp ⟨o, upd_same, hd⟩ (r1.up (Up.new hp))) q1⟩, cx⟩⟩
theorem call_tupP : CallR X (.type "tuple") (fun xs H Q => ∃ p ys, xs = [.ref p] ∧ SqL X.K H p ys ∧ ∀ l o, H l = none → o.dict = none → Q (.ref l) (upd H l (.frz o (.tup ys)))) := by
  intro pins s σ H xs us Q I r h
  obtain ⟨p, ys, rfl, hq, q⟩ := h
  obtain ⟨u, rfl, rx⟩ := vals1 r
  cases rx
  obtain ⟨its, r', pl, hz⟩ := I.list hq
  have hlen := r'.length
  refine call_tuple_list pl.isList (fun h' kp => ?_) (by simp only [List.size_toArray] <;> omega)
  have I1 : Inv X pins σ H { s with heap := h' } := I.kept (t' := s.toks) kp
  have I2 : Inv X pins σ (upd H h'.objs.size (.frz { cls := .type "tuple", data := .seq its.toArray } (.tup ys))) { s with heap := h'.push { cls := .type "tuple", data := .seq its.toArray } } :=
    I1.laid (t' := s.toks) (fun b o e => Heap.get?_push_of_some _ e) (Nat.le_refl _) (show ObjOk X.prog X.w _ _ _ (.frz _ (.tup ys)) from ⟨Heap.get?_push_size _ rfl, hz, its, r', IsTup.new _ _⟩)
  exact ⟨.ref h'.objs.size, _, I2, rfl, q _ _ (I1.hok.fresh (Nat.le_refl _)) rfl⟩
/-- tuple(a list), known to be plain -/
def dTupCP : DC := fun xs G R => match xs with
  | [x] => (match x with
    | .rol l => R (.ptp l) G
    | .ref a => (match G a with
      | some (.lst l) => R (.ptp l) G
      | _ => False)
    | _ => False)
  | _ => False
theorem cd_tupP : CD X (.type "tuple") dTupCP := ⟨_, call_tupP, fun T x H d G R Q hr r q cr => by
  unfold dTupCP at q
  split at q
  · cases r with
    | cons r1 r2 =>
      cases r2
      split at q
      · cases r1 with
        | rol hq r1 => exact ⟨_, _, rfl, hq.sqL, fun n o hn hd => cr _ _ _ _ (Up.new hn) (hr.new0 hn) (.ptp ⟨o, upd_same, hd⟩ (r1.up (Up.new hn))) q⟩
      · cases r1
        split at q
        · rename_i l ea
          obtain ⟨xs, e1, r1⟩ := hr _ _ ea
          exact ⟨_, xs, rfl, SqL.of e1, fun n o hn hd => cr _ _ _ _ (Up.new hn) (hr.new0 hn) (.ptp ⟨o, upd_same, hd⟩ (r1.up (Up.new hn))) q⟩
        · exact False.elim q
      · exact False.elim q
  · exact False.elim q⟩
/-! dict(pairs) -/
theorem call_dictPT (hcalm : X.calm = true) : CallR X (.type "dict") (fun xs H Q => ∃ (a : Addr) (ps : List Addr) (kvs : List (Key × V)), xs = [.ref a] ∧ PT H a (ps.map V.ref) ∧ Paired (fun p kv => SqT X.K H p [kV kv.1, kv.2]) ps kvs ∧
    ∀ p, H p = none → Q (.ref p) (upd H p (.dK (mergeK [] kvs)))) := by
  intro pins s σ H xs us Q I r q
  obtain ⟨a, ps, kvs, ex, ⟨o, ho, hd⟩, hp, q⟩ := q
  subst ex
  obtain ⟨u, eu, rx⟩ := vals1 r
  subst eu
  cases rx
  obtain ⟨ha, hz, its, rv, ⟨o2, ho2, hc, n, hdat⟩⟩ := I.hok _ _ ho
  rw [ha] at ho2
  cases ho2
  have ei := refs_at rv
  subst ei
  rw [List.length_map] at hz
  obtain ⟨prs, rel, hl, hpr⟩ := pairs_of I hp
  -- the pairs as values
  have vk : ∀ j, ∀ q' : Key × Value, prs[j]? = some q' → ∃ (b : Addr) (u : Value), ps[j]? = some b ∧ IsTup s.heap b #[u, q'.2] ∧ keyIs q'.1 u = true := hpr
  have vps : ∃ vps : List (Value × Value), vps.length = ps.length ∧ (∀ (j : Nat) (k v : Value), vps[j]? = some (k, v) → ∃ b, ps[j]? = some b ∧ IsTup s.heap b #[k, v]) ∧ ∀ (j : Nat) (k v : Value), vps[j]? = some (k, v) → ∃ k', prs[j]? = some (k', v) ∧ keyIs k' k = true := by
    clear rel q hz rv hdat ha ho hp
    induction prs generalizing ps with
    | nil =>
      refine ⟨[], by simpa using hl, fun j k v e => by simp at e, fun j k v e => by simp at e⟩
    | cons p prs ih =>
      cases ps with
      | nil => simp at hl
      | cons b ps =>
        obtain ⟨b', u, e1, e2, e3⟩ := vk 0 p rfl
        cases e1
        obtain ⟨vps, h1, h2, h3⟩ := ih (ps := ps) (by simpa using hl) (fun j q' e => vk (j + 1) q' (by simpa using e)) (fun j q' e => vk (j + 1) q' (by simpa using e))
        refine ⟨(u, p.2) :: vps, by simp [h1], fun j k v e => ?_, fun j k v e => ?_⟩
        · cases j with
          | zero => cases e; exact ⟨_, rfl, e2⟩
          | succ j => exact h2 j k v (by simpa using e)
        · cases j with
          | zero => cases e; exact ⟨_, rfl, e3⟩
          | succ j => exact h3 j k v (by simpa using e)
  obtain ⟨vps, v1, v2, v3⟩ := vps
  let Ts : Nat → Addr := fun j => ps.getD j 0
  have P := PairArg.tuple (prog := X.prog) (w := X.w) a (ps.map Value.ref).toArray Ts vps
  have ok : PlainSeq "tuple" s.heap a (ps.map Value.ref).toArray ∧ PairItems s.heap (ps.map Value.ref).toArray Ts vps := by
    refine ⟨⟨o, n, ha, hc, hd, hdat⟩, by simp [v1], fun j k v e => ?_⟩
    obtain ⟨b, e1, e2⟩ := v2 j k v e
    have e3 : Ts j = b := by
      show ps.getD j 0 = b
      rw [List.getD_eq_getElem?_getD, e1]
      rfl
    rw [e3]
    exact ⟨by simp [e1], .inl e2⟩
  have hpl : prs.length = vps.length := hl.trans v1.symm
  refine PySem.call_dict_pairs (knd := mixKind X.prog X.w) (kvs := prs) P (I.ok.hd hcalm) ok ⟨hpl, fun i key v rel => ?_⟩ (by rw [v1]; exact hz) fun h' tk hd' k => ?_
  · exact v3 i key v rel
  · have hm : (s.heap.objs.size == sysModules) = false := beq_eq_false_iff_ne.mpr (Nat.ne_of_gt I.big)
    have hlen : (mergeK [] kvs).length ≤ sizeLine := by
      refine Nat.le_trans (length_mergeK kvs []) ?_
      rw [List.length_nil, Nat.zero_add, rel.length, hl]
      exact hz
    exact ⟨.ref s.heap.objs.size, upd H s.heap.objs.size (.dK (mergeK [] kvs)), I.laid (t' := tk) (fun b o e => k b o (by simp) e) (Nat.le_refl _) (show ObjOk X.prog X.w _ _ _ (.dK (mergeK [] kvs)) from ⟨hlen, hm, merged [] prs, KV.merge rel .nil, hd'⟩), rfl, q _ (I.hok.fresh (Nat.le_refl _))⟩
/-- a list's or plain tuple's pairs -/
def keyed (d : D) : Option (Key × D) := match d.tl with
  | some [k, v] => k.ky.map fun k => (k, v)
  | _ => none
def pairsOf (G : DH) (x : D) : Option (List D) := match x with
  | .ref a => (match G a with
    | some (.lst l) => some l
    | _ => none)
  | .rol l => some l
  | .ptp l => some l
  | _ => none
def mergeD (kvs more : List (Key × D)) : List (Key × D) := more.foldl (fun acc kv => putD acc kv.1 kv.2) kvs
theorem KVr.merge {K : KT} {H : Hp} : ∀ {more : List (Key × V)} {moreD : List (Key × D)} {kvs : List (Key × V)} {kvsD : List (Key × D)}, KVr K H more moreD → KVr K H kvs kvsD → KVr K H (mergeK kvs more) (mergeD kvsD moreD)
  | _, _, _, _, .nil, r => r
  | p :: more, q :: moreD, _, _, .cons h t, r => by
    unfold mergeK mergeD
    rw [List.foldl_cons, List.foldl_cons]
    obtain ⟨e, h⟩ := h
    have e : p.1 = q.1 := e
    rw [e]
    exact KVr.merge t (KVr.putD h r)
theorem keyed_v {K : KT} {H : Hp} : ∀ {xs : List V} {l : List D} {kvs : List (Key × D)}, DvL K H xs l → l.map keyed = kvs.map some → ∃ (ps : List Addr) (ys : List (Key × V)), xs = ps.map V.ref ∧ Paired (fun p kv => SqT K.1 H p [kV kv.1, kv.2]) ps ys ∧ KVr K H ys kvs
  | _, _, [], .nil, _ => ⟨[], [], rfl, .nil, .nil⟩
  | _, _, _ :: _, .nil, e => by simp at e
  | _, _, [], .cons _ _, e => by simp at e
  | _, _, (k, d) :: kvs, .cons (d := x) h t, e => by
    rw [List.map_cons, List.map_cons, List.cons.injEq] at e
    obtain ⟨e1, e2⟩ := e
    obtain ⟨ps, ys, e3, e4, e5⟩ := keyed_v t e2
    unfold keyed at e1
    split at e1
    · rename_i k' v' et
      obtain ⟨k2, e6, e7⟩ := Option.map_eq_some_iff.mp e1
      cases e7
      obtain ⟨a, zs, e8, e9, e10⟩ := h.sqT et
      cases e10 with
      | cons r1 r2 =>
        cases r2 with
        | cons r2 r3 =>
          cases r3
          rw [ky_v r1 e6] at e9
          exact ⟨a :: ps, (k, _) :: ys, by rw [e8, e3]; rfl, .cons e9 e4, .cons ⟨rfl, r2⟩ e5⟩
    · cases e1
def dDictP : DC := fun xs G R => match xs with
  | [x] => ∃ l kvs, pairsOf G x = some l ∧ l.map keyed = kvs.map some ∧ ∀ p, G p = none → R (.ref p) (updD G p (.dK (mergeD [] kvs)))
  | _ => False
def rDictP (K : PySem.W.Frag) : List V → Hp → VK → Prop := fun xs H Q => ∃ (a : Addr) (ps : List Addr) (kvs : List (Key × V)), xs = [.ref a] ∧ (SqL K H a (ps.map V.ref) ∨ PT H a (ps.map V.ref)) ∧ Paired (fun p kv => SqT K H p [kV kv.1, kv.2]) ps kvs ∧ ∀ p, H p = none → Q (.ref p) (upd H p (.dK (mergeK [] kvs)))
theorem call_dictA (hcalm : X.calm = true) : CallR X (.type "dict") (rDictP X.K) := fun pins s σ H xs us Q I r ⟨a, ps, kvs, e, h, hp, q⟩ => by
  rcases h with h | h
  · exact call_dictP hcalm pins s σ H xs us Q I r ⟨a, ps, kvs, e, h, hp, q⟩
  · exact call_dictPT hcalm pins s σ H xs us Q I r ⟨a, ps, kvs, e, h, hp, q⟩
theorem cd_dict (hc : X.calm = true) : CD X (.type "dict") dDictP := ⟨_, call_dictA hc, fun T x H d G R Q hr r q cr => by
  unfold dDictP at q
  split at q
  · cases r with
    | cons r1 r2 =>
      cases r2
      obtain ⟨l, kvs, e1, e2, q⟩ := q
      have fin : ∀ (ps : List Addr) (ys : List (Key × V)), KVr (X.K, T) H ys kvs → ∀ p, H p = none → Q (.ref p) (upd H p (.dK (mergeK [] ys))) := fun ps ys rk p hp =>
        cr _ _ _ _ (Up.new hp) (hr.new (c := .dK (mergeD [] kvs)) hp ⟨_, upd_same, (KVr.merge rk .nil).up (Up.new hp)⟩) (.ref p) (q p (hr.none hp))
      unfold pairsOf at e1
      split at e1
      · cases r1
        split at e1
        · rename_i a l' ea
          cases e1
          obtain ⟨xs, h1, h2⟩ := hr _ _ ea
          obtain ⟨ps, ys, e3, e4, e5⟩ := keyed_v h2 e2
          subst e3
          exact ⟨_, ps, ys, rfl, .inl (SqL.of h1), e4, fin ps ys e5⟩
        · cases e1
      · cases e1
        cases r1 with
        | rol hq h2 =>
          obtain ⟨ps, ys, e3, e4, e5⟩ := keyed_v h2 e2
          subst e3
          exact ⟨_, ps, ys, rfl, .inl hq.sqL, e4, fin ps ys e5⟩
      · cases e1
        cases r1 with
        | ptp hq h2 =>
          obtain ⟨ps, ys, e3, e4, e5⟩ := keyed_v h2 e2
          subst e3
          exact ⟨_, ps, ys, rfl, .inr hq, e4, fin ps ys e5⟩
      · cases e1
  · exact False.elim q⟩
/-- dict(pairs), read and forgotten -/
def dDictF : DC := fun xs G R => match xs with
  | [x] => ∃ l kvs, pairsOf G x = some l ∧ l.map keyed = kvs.map some ∧ R (.rod (mergeD [] kvs)) G
  | _ => False
theorem cd_dictF (hc : X.calm = true) : CD X (.type "dict") dDictF := cd_frz (cd_dict hc) fun ds G R q => by
  unfold dDictF at q
  split at q
  · obtain ⟨l, kvs, a, b, q⟩ := q
    exact ⟨l, kvs, a, b, fzv_newK q⟩
  · exact q.elim
/-! sorted(a dict of ints) -/
def sortI (ks : List Int) : List Int := ks.mergeSort fun a b => decide (a ≤ b)
theorem sortI_of {ys ks : List Int} (h : ys.Perm ks) (s : ys.Pairwise (· ≤ ·)) : ys = sortI ks := by
  have p : (sortI ks).Pairwise (· ≤ ·) := by
    have := List.pairwise_mergeSort (le := fun a b : Int => decide (a ≤ b)) (fun a b c h1 h2 => by simp only [decide_eq_true_eq] at *; omega) (fun a b => by simp only [Bool.or_eq_true, decide_eq_true_eq]; omega) ks
    exact this.imp fun h => by simpa using h
  exact List.Perm.eq_of_pairwise (le := fun a b : Int => a ≤ b) (fun a b _ _ h1 h2 => by omega) s p (h.trans (List.mergeSort_perm _ _).symm)
def dictOf (G : DH) (x : D) : Option (List (Key × D)) := match x with
  | .ref a => (match G a with
    | some (.dK kvs) => some kvs
    | _ => none)
  | .rod kvs => some kvs
  | _ => none
theorem dictOf_v {K : KT} {G : DH} {H : Hp} {v : V} {x : D} {kvs : List (Key × D)} (hr : HRel K G H) (r : Dv K H v x) (e : dictOf G x = some kvs) : ∃ a ys, v = .ref a ∧ Rd H a (.dK ys) ∧ KVr K H ys kvs := by
  unfold dictOf at e
  split at e
  · cases r
    split at e
    · rename_i a l ea
      cases e
      obtain ⟨ys, h1, h2⟩ := hr _ _ ea
      exact ⟨_, ys, rfl, .inl h1, h2⟩
    · cases e
  · cases e
    cases r with
    | rod hq h2 =>
      obtain ⟨o, hq⟩ := hq
      exact ⟨_, _, rfl, .inr ⟨o, hq⟩, h2.kvr⟩
  · cases e
theorem KVr.keys {K : KT} {H : Hp} {κ : Type} {xs : List (κ × V)} {ys : List (κ × D)} (r : KVr K H xs ys) : xs.map (·.1) = ys.map (·.1) := by
  induction r with
  | nil => rfl
  | @cons p q l m h t ih => rw [List.map_cons, List.map_cons, ih, h.1]
def dSortDI0 : DC := fun xs G R => match xs with
  | [x] => ∃ kvs ks, dictOf G x = some kvs ∧ kvs.map (·.1) = ks.map Sum.inl ∧ ks.length < 64 ∧ ∀ p, G p = none → R (.ref p) (updD G p (.lst ((sortI ks).map .int)))
  | _ => False
def dSortDI : DC := fun xs G R => match xs with
  | [x] => ∃ kvs ks, dictOf G x = some kvs ∧ kvs.map (·.1) = ks.map Sum.inl ∧ ks.length < 64 ∧ R (.rol ((sortI ks).map .int)) G
  | _ => False
theorem dvL_ints {K : KT} {H : Hp} : ∀ ns : List Int, DvL K H (ns.map V.int) (ns.map D.int)
  | [] => .nil
  | n :: ns => .cons (.int n) (dvL_ints ns)
theorem cd_sortDI0 (hc : X.calm = true) : CD X (.builtin "sorted") dSortDI0 := ⟨_, call_sortedDI hc, fun T x H d G R Q hr r q cr => by
  unfold dSortDI0 at q
  split at q
  · cases r with
    | cons r1 r2 =>
      cases r2
      obtain ⟨kvs, ks, e1, e2, h64, q⟩ := q
      obtain ⟨a, ys, e3, e4, e5⟩ := dictOf_v hr r1 e1
      subst e3
      refine ⟨a, ys, ks, rfl, e4, e5.keys.trans e2, h64, fun zs p hz hs hp => ?_⟩
      rw [sortI_of hz hs]
      exact cr _ _ _ _ (Up.new hp) (hr.new (c := .lst ((sortI ks).map .int)) hp ⟨_, upd_same, dvL_ints _⟩) (.ref p) (q p (hr.none hp))
  · exact False.elim q⟩
theorem cd_sortDI (hc : X.calm = true) : CD X (.builtin "sorted") dSortDI := cd_frz (cd_sortDI0 hc) fun ds G R q => by
  unfold dSortDI at q
  split at q
  · obtain ⟨l, kvs, a, b, c, q⟩ := q
    exact ⟨l, kvs, a, b, c, fzv_new q⟩
  · exact q.elim
/-! len(set(a tuple of ints)) -/
def Distinct (ns : List Int) (c : Nat) : Prop := ∃ keys : List Int, keys.Nodup ∧ (∀ k, k ∈ keys ↔ k ∈ ns) ∧ c = keys.length
theorem Distinct.of_nodup {ns : List Int} {c : Nat} (h : Distinct ns c) (hn : ns.Nodup) : c = ns.length := by
  obtain ⟨keys, h1, h2, h3⟩ := h
  rw [h3]
  exact ((List.perm_ext_iff_of_nodup h1 hn).mpr h2).length_eq
def tLenSetT (K : PySem.W.Frag) (ta : TE) : TE := fun σ H Q => ta σ H fun x H1 => ∃ (l : Addr) (ns : List Int), x = .ref l ∧ SqT K H1 l (ns.map V.int) ∧ ns.length ≤ 4000 ∧ ∀ c, Distinct ns c → Q (.int (c : Nat)) H1
theorem pe_lenSetT {a : Expr} {ta : TE} {p p2 q pos : Pos} (hg : Gl X "len") (hm : X.mg "len" = none) (hg2 : Gl X "set") (hm2 : X.mg "set" = none) (ha : PE X a ta) (hc : X.calm = true := by rfl)
    (na : starEach [a] X.env = (false, eval a X.env) :: starEach [] X.env := by rfl) : PE X (.Call (.Name "len" p) [.Call (.Name "set" p2) [a] [] q] [] pos) (tLenSetT X.K ta) := by
  refine ⟨fun pins s σ H Q I h => ?_⟩
  refine Call_ (ld_blt I hg hm boot_len ?_)
  refine PyProof.Rows.callWith_builtin1 (PyProof.Rows.args_cons ?_ rfl) rfl rfl
  refine Call_ (ld_blt I hg2 hm2 boot_set ?_)
  refine PyProof.Rows.callWith_type1 (PyProof.Rows.args_cons (thn (ha.run pins s σ H _ I h) fun v s1 ⟨x, H1, I1, r1, q1⟩ => PyProof.Rows.args_nil ?_) na) na rfl
  obtain ⟨l, ns, rfl, hq, hl, q1⟩ := q1
  cases r1
  obtain ⟨its, r, pl, hz⟩ := I1.tuple hq
  refine call_set_tupI (items := its.toArray) ns (I1.ok.hd hc) pl (by simpa using RZ.intsAre_vals r) (by unfold scanBound; omega) fun h' tk c hS hcn hk => ?_
  refine PyProof.Rows.args_nil ?_
  obtain ⟨o, es, ep, t, ho, hex, hd, hG, hnd, hmem, hsz, hf, hn, _⟩ := hS
  have I2 : Inv X pins σ H1 { s1 with heap := h', toks := tk } := I1.kept hk
  refine call_len_set ho hex hd hf (by rw [hn] <;> omega) ⟨.int c, H1, I2.tok _, ⟨_, by rw [hn]⟩, q1 c ⟨es.toList.map keyOf, hnd, fun k => ?_, by simp [hn]⟩⟩
  rw [← hmem k, decide_eq_true_iff]
def dLenSet (da : DE) : DE := fun δ G R EX => da δ G (fun x G1 => ∃ ns : List Int, x.tl = some (ns.map .int) ∧ ns.length ≤ 4000 ∧ ∀ c, Distinct ns c → R (.int (c : Nat)) G1) EX
theorem vals_ints {K : KT} {H : Hp} : ∀ {xs : List V} {ns : List Int}, DvL K H xs (ns.map D.int) → xs = ns.map V.int
  | _, [], h => by cases h; rfl
  | _, n :: ns, h => by
    cases h with
    | cons h t =>
      cases h
      rw [List.map_cons, ← vals_ints t]
theorem pd_lenSet {a : Expr} {p p2 q pos : Pos} (hm : X.mg "len" = none) (hm2 : X.mg "set" = none) (ha : PD X E a da) (hc : X.calm = true := by rfl) (hg : Gl X "len" := by rfl) (hg2 : Gl X "set" := by rfl)
    (na : starEach [a] X.env = (false, eval a X.env) :: starEach [] X.env := by rfl) : PD X E (.Call (.Name "len" p) [.Call (.Name "set" p2) [a] [] q] [] pos) (dLenSet da) :=
  ⟨imE (pe_lenSetT hg hm hg2 hm2 ha.pe hc na) fun σ H Q ⟨δ, G, R, EX, sr, hr, h, cr, cx⟩ => ⟨δ, G, _, EX, sr, hr, h, fun v H1 x G1 u1 h1 r1 ⟨ns, e1, e2, q⟩ => by
    obtain ⟨l, xs, e3, e4, e5⟩ := r1.sqT e1
    rw [vals_ints e5] at e4
    exact ⟨l, ns, e3, e4, e2, fun c hc => cr _ _ _ _ u1 h1 (.int _) (q c hc)⟩, cx⟩⟩
end
end Cc
/-! ### sorted(a dict with tuple keys) -/
namespace Cc
open PySem PySem.Spec PyProof.Rows L2
open PySem.W (EachIs AllAlike Sortable dataLe each_map dataKind sortVals_data SortsAt list_sort_vals sortingHeap_old sortVals)
def kP : Key → PyData
  | .inl i => .int i
  | .inr s => .str s
def encK (ks : List Key) : PyData := .tuple (ks.map kP)
def sortK (ks : List (List Key)) : List (List Key) := ks.mergeSort (dataLe false encK)
section
variable {X : Cx}
theorem dp_key {K : PySem.W.Frag} {H : Hp} : ∀ ks : List Key, DpAll K H (ks.map kV) (ks.map kP)
  | [] => .nil
  | .inl i :: ks => .cons (.int i) (dp_key ks)
  | .inr s :: ks => .cons (.str s) (dp_key ks)
theorem dep_key (ks : List Key) : (encK ks).depth ≤ 1 := by
  have : PyData.depthAll (ks.map kP) = 0 := by
    induction ks with
    | nil => rfl
    | cons k ks ih => cases k <;> simp [kP, PyData.depthAll, PyData.depth, ih]
  unfold encK
  rw [PyData.depth, this]
  omega
theorem each_self : ∀ ks : List (List Key × Addr × Value), EachIs (fun (v : Value) (x : List Key × Addr × Value) => v = .ref x.2.1) (ks.map fun x => Value.ref x.2.1) ks
  | [] => .nil
  | _ :: ks => .cons rfl (each_self ks)
theorem paired_of {H : Hp} : ∀ {kvs : List (List Key × V)} {ks : List (List Key × Addr × Value)}, Paired (fun (p : List Key × V) (q : List Key × Addr × Value) => p.1 = q.1 ∧ H q.2.1 = some (.tup (p.1.map kV)) ∧ RelV p.2 q.2.2) kvs ks → (∀ x ∈ ks, H x.2.1 = some (.tup (x.1.map kV))) ∧ kvs.map (·.1) = ks.map (·.1)
  | [], _, .nil => ⟨(fun _ h => by cases h), rfl⟩
  | p :: kvs, x :: ks, .cons h t => by
    obtain ⟨h1, h2⟩ := paired_of t
    refine ⟨fun y hy => ?_, by rw [List.map_cons, List.map_cons, h2, h.1]⟩
    rcases List.mem_cons.mp hy with rfl | hy
    · rw [← h.1]; exact h.2.1
    · exact h1 y hy
theorem out_vals : ∀ {out : List Value} {ks : List (List Key × Addr × Value)}, EachIs (fun (v : Value) (x : List Key × Addr × Value) => v = .ref x.2.1) out ks → Vals ((ks.map fun x => x.2.1).map V.ref) out
  | _, _, .nil => .nil
  | _, _, .cons h t => by
    rw [List.map_cons, List.map_cons]
    exact .cons (by rw [h]; rfl) (out_vals t)
theorem keys_at {H : Hp} : ∀ {ks : List (List Key × Addr × Value)}, (∀ x ∈ ks, H x.2.1 = some (.tup (x.1.map kV))) → Paired (fun k b => H b = some (.tup (k.map kV))) (ks.map (·.1)) (ks.map fun x => x.2.1)
  | [], _ => .nil
  | x :: ks, h => .cons (h x List.mem_cons_self) (keys_at fun y hy => h y (List.mem_cons_of_mem _ hy))
theorem call_sortDT (hc : X.calm = true) (hu : X.A.units + 42 < cLine) : CallR X (.builtin "sorted") (fun xs H Q => ∃ d kvs, xs = [V.ref d] ∧ Rd H d (.dT kvs) ∧ AllAlike (kvs.map fun p => encK p.1) ∧ Sortable (kvs.map fun p => encK p.1) ∧
    ∀ p bs, H p = none → Paired (fun k b => H b = some (.tup (k.map kV))) (sortK (kvs.map (·.1))) bs → Q (.ref p) (upd H p (.lst (bs.map V.ref)))) := by
  intro pins s σ H xs us Q I r h
  obtain ⟨d, kvs, rfl, hd, hal, hso, q⟩ := h
  obtain ⟨u, rfl, rx⟩ := r.one
  cases rx
  obtain ⟨z, hs, ks, pr, o, es, ep, ho, hx, hdt, he, hn⟩ := (show ObjOk X.prog X.w H s.heap d (.dT kvs) from hd.ok I.hok)
  have l1 : es.size = ks.length := size_of_entries he
  have l2 : kvs.length = ks.length := Paired.length pr
  refine Calls.call_function_entry PyProof.Rows.kind_sorted PyProof.Rows.plain_sorted PyProof.Rows.entry_sorted (PyProof.Rows.args_sorted1 _) ?_
  unfold Builtin.«sorted»
  refine wpAny_bind (m := checkCount "sorted" 1 1 _) (wpAny_pure ?_)
  refine wpAny_bind (PySem.W.kdu_collect (A := X.A.in1) (kdl_raw hs hx hdt) (I.ok.hd hc) ho (by omega) fun h' tk acc hk it => ?_)
  have ea : acc.toList = ks.map fun x => Value.ref x.2.1 := by
    have hl : acc.toList.length = ks.length := by rw [Array.length_toList, it.1]; exact l1
    apply List.ext_getElem?
    intro j
    rw [List.getElem?_map]
    cases hj : acc.toList[j]? with
    | none =>
      have h1 := List.getElem?_eq_none_iff.mp hj
      rw [List.getElem?_eq_none (by omega)]
      all_goals rfl
    | some v =>
      obtain ⟨en, hen, hv⟩ := it.2 j v (by rw [← Array.getElem?_toList]; exact hj)
      have qe := entry_at he j
      rw [hen] at qe
      cases hb : ks[j]? with
      | none =>
        rw [hb] at qe
        exact nomatch (show some en = none from qe)
      | some b =>
        rw [hb] at qe
        have e2 : en = entryOfKey (tupleKind (mixKind X.prog X.w)) b := Option.some.inj qe
        rw [hv, e2]
        all_goals rfl
  have I1 : Inv X pins σ H { s with heap := h', toks := tk } := I.kept hk
  have hlen : acc.toList.length = ks.length := by rw [ea, List.length_map]
  refine wpAny_bind (wpAny_newList ?_ (by rw [hlen]; omega))
  have hoL : (h'.push (PyProof.Rows.seqObj "list" acc.toList.toArray 0)).get? h'.objs.size = some (PyProof.Rows.seqObj "list" acc.toList.toArray 0) := Heap.get?_push_size _ rfl
  show wpAny _ _ _ _ _ { s with heap := h'.push (PyProof.Rows.seqObj "list" acc.toList.toArray 0), toks := tk }
  have e : EachIs (fun (v : Value) (x : List Key × Addr × Value) => v = .ref x.2.1) acc.toList ks := by
    rw [ea]
    exact each_self ks
  have hmem : ∀ x ∈ ks, H x.2.1 = some (.tup (x.1.map kV)) := fun x hx => by
    exact (paired_of pr).1 x hx
  have er : EachIs (fun (v : Value) (x : List Key × Addr × Value) => ∃ as, Reads (PySem.W.sortingHeap (h'.push (PyProof.Rows.seqObj "list" acc.toList.toArray 0)) h'.objs.size acc.toList) v (encK x.1) as) acc.toList ks := by
    refine (PySem.W.each_mem e).mono fun v x ⟨ev, hx⟩ => ?_
    subst ev
    obtain ⟨as, rd⟩ := Dp.reads I1 (encK x.1) (.ref x.2.1) (.ref x.2.1) (.tup (SqT.of (hmem x hx)) (dp_key _)) rfl
    refine ⟨as, PyProof.Rows.Reads.keeps (fun b ob hb => ?_) rd⟩
    have hb2 : b < h'.objs.size := Heap.lt_size hb
    exact sortingHeap_old (Nat.ne_of_lt hb2) (Heap.get?_push_of_some _ hb)
  have ek : ks.map (fun x : List Key × Addr × Value => encK x.1) = kvs.map fun p => encK p.1 := by
    have : ks.map (fun x => x.1) = kvs.map fun p => p.1 := (paired_of pr).2.symm
    have h2 := congrArg (List.map encK) this
    rw [List.map_map, List.map_map] at h2
    exact h2
  have hal' : AllAlike (ks.map fun x : List Key × Addr × Value => encK x.1) := by rw [ek]; exact hal
  have hso' : Sortable (ks.map fun x : List Key × Addr × Value => encK x.1) := by rw [ek]; exact hso
  have S := SortsAt.data (prog := X.prog) (w := X.w) (A := X.A.in1.in1) (s := { s with heap := PySem.W.sortingHeap (h'.push (PyProof.Rows.seqObj "list" acc.toList.toArray 0)) h'.objs.size acc.toList, toks := tk })
    (each_map (R := fun v d => ∃ as, Reads (PySem.W.sortingHeap (h'.push (PyProof.Rows.seqObj "list" acc.toList.toArray 0)) h'.objs.size acc.toList) v d as) (fun x : List Key × Addr × Value => encK x.1) er) hal' hso' (fun t ht => by
      obtain ⟨x, _, rfl⟩ := List.mem_map.mp ht
      have := dep_key x.1
      show X.A.in1.in1.units + (encK x.1).depth < cLine
      have : X.A.in1.in1.units ≤ X.A.units + 2 := by simp
      omega)
  refine wpAny_bind (wpAny_holding (wpAny_call_entry PyProof.Rows.slot_list_sort ⟨_, hoL, rfl⟩ PyProof.Rows.entry_list_sort
    (list_sort_vals (s := { s with heap := h'.push (PyProof.Rows.seqObj "list" acc.toList.toArray 0), toks := tk }) hoL S (by rw [hlen]; omega) ⟨_, rfl, ?_⟩) (PyProof.Rows.args_list_sort _)))
  have eo := sortVals_data (enc := fun x : List Key × Addr × Value => encK x.1) false e er hal'
  obtain ⟨e', he'⟩ := PyProof.Rows.sortedHeap_at (vs := acc.toList) (out := (sortVals (dataKind (PySem.W.sortingHeap (h'.push (PyProof.Rows.seqObj "list" acc.toList.toArray 0)) h'.objs.size acc.toList) (ks.map fun x : List Key × Addr × Value => encK x.1)) false acc.toList acc.toList).toArray) hoL
  have hso2 : sortK (kvs.map (·.1)) = (ks.mergeSort (dataLe false fun x : List Key × Addr × Value => encK x.1)).map (·.1) := by
    unfold sortK
    rw [(paired_of pr).2]
    exact (List.map_mergeSort (f := fun x : List Key × Addr × Value => x.1) (fun _ _ _ _ => rfl)).symm
  have hz : (((ks.mergeSort (dataLe false fun x : List Key × Addr × Value => encK x.1)).map fun x => x.2.1).map V.ref).length ≤ sizeLine := by
    rw [List.length_map, List.length_map, List.length_mergeSort]
    omega
  refine wpAny_pure ⟨_, rfl, .ref h'.objs.size, upd H h'.objs.size (.lst (((ks.mergeSort (dataLe false fun x : List Key × Addr × Value => encK x.1)).map fun x => x.2.1).map V.ref)), I1.laid (t' := tk) (fun b u e => ?_) (Nat.le_refl _)
    (show ObjOk X.prog X.w _ _ _ (.lst _) from ⟨hz, _, e', out_vals eo, he'⟩), rfl, q _ _ (I1.hok.fresh (Nat.le_refl _)) ?_⟩
  · have hb : b < h'.objs.size := Heap.lt_size e
    rw [PyProof.Rows.sortedHeap_old (Nat.ne_of_lt hb) (by rw [PyProof.Rows.size_push']; exact Nat.lt_succ_of_lt hb)]
    exact Heap.get?_push_of_some _ e
  · rw [hso2]
    exact keys_at fun x hx => hmem x ((List.mergeSort_perm _ _).mem_iff.mp hx)
end
def dictTOf (G : DH) (x : D) : Option (List (List Key × D)) := match x with
  | .ref a => (match G a with
    | some (.dT kvs) => some kvs
    | _ => none)
  | _ => none
section
variable {X : Cx}
def dSortDT0 : DC := fun xs G R => match xs with
  | [x] => ∃ kvs, dictTOf G x = some kvs ∧ AllAlike (kvs.map fun p => encK p.1) ∧ Sortable (kvs.map fun p => encK p.1) ∧ ∀ p, G p = none → R (.ref p) (updD G p (.lst ((sortK (kvs.map (·.1))).map .key)))
  | _ => False
/-- sorted(d), its keys tuples -/
def dSortDT : DC := fun xs G R => match xs with
  | [x] => ∃ kvs, dictTOf G x = some kvs ∧ AllAlike (kvs.map fun p => encK p.1) ∧ Sortable (kvs.map fun p => encK p.1) ∧ R (.rol ((sortK (kvs.map (·.1))).map .key)) G
  | _ => False
theorem dvL_keys {K : KT} {H : Hp} : ∀ {ks : List (List Key)} {bs : List Addr}, Paired (fun k b => H b = some (.tup (k.map kV))) ks bs → DvL K H (bs.map V.ref) (ks.map .key)
  | _, _, .nil => .nil
  | _, _, .cons h t => .cons (.key h) (dvL_keys t)
theorem cd_sortDT0 (hc : X.calm = true) (hu : X.A.units + 64 < cLine) : CD X (.builtin "sorted") dSortDT0 := ⟨_, call_sortDT hc (by omega), fun T x H d G R Q hr r q cr => by
  unfold dSortDT0 at q
  split at q
  · cases r with
    | cons r1 r2 =>
      cases r2
      obtain ⟨kvs, e1, e2, e3, q⟩ := q
      unfold dictTOf at e1
      split at e1
      · cases r1
        split at e1
        · rename_i a l ea
          cases e1
          obtain ⟨ys, h1, h2⟩ := hr _ _ ea
          have ek : ys.map (fun p => encK p.1) = kvs.map fun p => encK p.1 := by
            have := congrArg (List.map encK) h2.keys
            rw [List.map_map, List.map_map] at this
            exact this
          refine ⟨_, ys, rfl, .inl h1, by rw [ek]; exact e2, by rw [ek]; exact e3, fun p bs hp hb => ?_⟩
          rw [h2.keys] at hb
          exact cr _ _ _ _ (Up.new hp) (hr.new (c := .lst _) hp ⟨_, upd_same, (dvL_keys hb).up (Up.new hp)⟩) (.ref p) (q p (hr.none hp))
        · cases e1
      · cases e1
  · exact False.elim q⟩
theorem cd_sortDT (hc : X.calm = true) (hu : X.A.units + 64 < cLine) : CD X (.builtin "sorted") dSortDT := cd_frz (cd_sortDT0 hc hu) fun ds G R q => by
  unfold dSortDT at q
  split at q
  · obtain ⟨l, a, b, c, q⟩ := q
    exact ⟨l, a, b, c, fzv_new q⟩
  · exact q.elim
end
end Cc
/-! ### tuples that are keys -/
namespace Cc
open PySem PySem.Spec PyProof.Rows L2
theorem keys_v {K : KT} {H : Hp} : ∀ {xs : List V} {l : List D} {ks : List Key}, DvL K H xs l → l.map D.ky = ks.map some → xs = ks.map kV
  | _, _, [], .nil, _ => rfl
  | _, _, _ :: _, .nil, e => by simp at e
  | _, _, [], .cons _ _, e => by simp at e
  | _, _, k :: ks, .cons h t, e => by
    rw [List.map_cons, List.map_cons, List.cons.injEq] at e
    rw [List.map_cons, ky_v h e.1, keys_v t e.2]
section
variable {X : Cx} {E : EK} {es : List Expr} {pos : Pos} {dl : DA}
def dKey (dl : DA) : DE := fun δ G R EX => dl δ G (fun xs G1 => ∃ ks, xs.map D.ky = ks.map some ∧ xs.length ≤ sizeLine ∧ R (.key ks) G1) EX
theorem pd_key {x1} (h : PDA X E es dl) : PD X E (.Tuple es x1 pos) (dKey dl) :=
  ⟨imE (pe_tup h.pa) fun σ H Q ⟨δ, G, R, EX, sr, hr, h, cr, cx⟩ => ⟨δ, G, _, EX, sr, hr, h, fun xs H1 l G1 u1 h1 r1 ⟨ks, ek, z, q1⟩ => ⟨by rw [r1.length]; exact z, fun p hp => by
    rw [keys_v r1 ek]
    exact cr _ _ _ _ (u1.trans (Up.new hp)) (h1.new0 hp) (.key upd_same) q1⟩, cx⟩⟩
end
end Cc
/-! ### dict displays; d.update(pairs) -/
namespace Cc
open PySem PySem.Spec PyProof.Rows L2
def dPs : List (Key × DE) → DS → DH → (List (Key × D) → DH → Prop) → DX → Prop
  | [], _, G, Q, _ => Q [] G
  | (k, de) :: r, δ, G, Q, EX => de δ G (fun d G1 => dPs r δ G1 (fun ps G2 => Q ((k, d) :: ps) G2) EX) EX
section
variable {X : Cx} {E : EK} {pos : Pos} {keys : List (Option Expr)} {values : List Expr}
def upPs (K : KT) (E : XK) (ps : List (Key × DE)) : L2.St → Hp → (List (V × V) → Hp → Prop) → Prop := fun σ H Q => ∃ δ G RR EX, SRel K H σ δ ∧ HRel K G H ∧ dPs ps δ G RR EX ∧
  (∀ (ys : List (Key × V)) H' kvs G', Up H H' → HRel K G' H' → KVr K H' ys kvs → RR kvs G' → Q (ys.map fun kv => (kV kv.1, kv.2)) H') ∧ CloX K H E EX
structure PDPs (X : Cx) (E : EK) (pos : Pos) (keys : List (Option Expr)) (values : List Expr) (ps : List (Key × DE)) : Prop where
  ex : ∃ trs, PPs X pos keys values trs ∧ ∀ σ H Q, upPs (kt X E) E.1 ps σ H Q → tPairs trs σ H Q
  len : keys.length = values.length
  some : keys.all (·.isSome) = true
theorem pdps_nil : PDPs X E pos [] [] [] := ⟨⟨[], pps_nil, fun σ H Q ⟨δ, G, RR, EX, sr, hr, h, cr, cx⟩ => cr [] H [] G (Up.refl H) hr .nil h⟩, rfl, rfl⟩
theorem pdps_cons {z : Str} {j : Nat} {p : Pos} {v : Expr} {ks : List (Option Expr)} {vs : List Expr} {de : DE} {ps : List (Key × DE)} (hv : PD X E v de) (hr : PDPs X E pos ks vs ps) :
    PDPs X E pos (some (.Constant (.str z) j p) :: ks) (v :: vs) ((Sum.inr z, de) :: ps) := by
  obtain ⟨⟨trs, h1, h2⟩, l1, l2⟩ := hr
  have hk : PD X E (.Constant (.str z) j p) (dC (.str z)) := pd_str
  refine ⟨⟨(up (kt X E) E.1 (dC (.str z)), up (kt X E) E.1 de) :: trs, pps_cons hk.pe hv.pe h1, fun σ H Q ⟨δ, G, RR, EX, sr, hr, h, cr, cx⟩ => ?_⟩, by rw [List.length_cons, List.length_cons, l1], by rw [List.all_cons, l2]; rfl⟩
  refine ⟨δ, G, fun d G1 => d = .str z ∧ G1 = G, EX, sr, hr, ⟨rfl, rfl⟩, fun v1 H1 d1 G1 u1 g1 r1 ⟨e1, e2⟩ => ?_, cx⟩
  subst e1 e2
  cases r1
  refine ⟨δ, G1, _, EX, sr.up u1, g1, h, fun v2 H2 d2 G2 u2 g2 r2 q2 => ?_, cx.up u1⟩
  refine h2 _ _ _ ⟨δ, G2, _, EX, sr.up (u1.trans u2), g2, q2, fun ys H3 kvs G3 u3 g3 r3 q3 => ?_, cx.up (u1.trans u2)⟩
  exact cr ((Sum.inr z, v2) :: ys) H3 ((Sum.inr z, d2) :: kvs) G3 (u1.trans (u2.trans u3)) g3 (.cons ⟨rfl, r2.up u3⟩ r3) q3
/-- {'..': e, ..} -/
def dDisp (ps : List (Key × DE)) : DE := fun δ G R EX => ∀ p, G p = none → dPs ps δ (updD G p (.dK [])) (fun kvs G2 => G2 p = some (.dK []) ∧ kvs.length ≤ 15 ∧ R (.ref p) (updD G2 p (.dK (mergeD [] kvs)))) EX
theorem pd_disp {ps : List (Key × DE)} (h : PDPs X E pos keys values ps) (h0 : keys ≠ [] := by simp) (h15 : keys.length ≤ 15 := by decide) : PD X E (.Dict keys values pos) (dDisp ps) := by
  obtain ⟨⟨trs, h1, h2⟩, l1, l2⟩ := h
  refine ⟨imE (pe_disp h1 l2 l1 h0 h15) fun σ H Q ⟨δ, G, R, EX, sr, hr, h, cr, cx⟩ => fun p hp => ?_⟩
  have u0 : Up H (upd H p (.dK [])) := Up.new hp
  refine h2 _ _ _ ⟨δ, updD G p (.dK []), _, EX, sr.up u0, hr.new (c := .dK []) hp ⟨[], upd_same, .nil⟩, h p (hr.none hp), fun ys H' kvs G' u1 g1 rk ⟨e, hl, q⟩ => ?_, cx.up u0⟩
  obtain ⟨ys0, e0, r0⟩ := g1 _ _ e
  cases r0
  refine ⟨e0, ys, rfl, by rw [rk.len]; exact hl, ?_⟩
  have u2 : ∀ o, Up H' (upd H' p o) := fun o => Up.put e0 trivial
  exact cr _ _ _ _ ((u0.trans u1).trans (u2 _)) (g1.put (c := .dK (mergeD [] kvs)) e0 trivial ⟨_, upd_same, (KVr.merge rk .nil).up (u2 _)⟩) (.ref p) q
end
theorem vps_of {prog : Program} {w : World} {h : Heap} : ∀ {prs : List (Key × Value)} {ps : List Addr}, prs.length = ps.length → (∀ (j : Nat) (q' : Key × Value), prs[j]? = some q' → ∃ (b : Addr) (u : Value), ps[j]? = some b ∧ IsTup h b #[u, q'.2] ∧ keyIs q'.1 u = true) →
    ∃ vps : List (Value × Value), vps.length = ps.length ∧ (∀ (j : Nat) (k v : Value), vps[j]? = some (k, v) → ∃ b, ps[j]? = some b ∧ IsTup h b #[k, v]) ∧ ∀ (j : Nat) (k v : Value), vps[j]? = some (k, v) → ∃ k', prs[j]? = some (k', v) ∧ keyIs k' k = true
  | [], [], _, _ => ⟨[], rfl, fun j k v e => by simp at e, fun j k v e => by simp at e⟩
  | [], _ :: _, hl, _ => by simp at hl
  | _ :: _, [], hl, _ => by simp at hl
  | p :: prs, b :: ps, hl, vk => by
    obtain ⟨b', u, e1, e2, e3⟩ := vk 0 p rfl
    cases e1
    obtain ⟨vps, h1, h2, h3⟩ := vps_of (prog := prog) (w := w) (h := h) (prs := prs) (ps := ps) (by simpa using hl) (fun j q' e => vk (j + 1) q' (by simpa using e))
    refine ⟨(u, p.2) :: vps, by simp [h1], fun j k v e => ?_, fun j k v e => ?_⟩
    · cases j with
      | zero => cases e; exact ⟨_, rfl, e2⟩
      | succ j => exact h2 j k v (by simpa using e)
    · cases j with
      | zero => cases e; exact ⟨_, rfl, e3⟩
      | succ j => exact h3 j k v (by simpa using e)
section
variable {X : Cx}
def rUpd (K : PySem.W.Frag) : V → List V → Hp → VK → Prop := fun x xs H Q => ∃ (d : Addr) (kvs : List (Key × V)) (a : Addr) (ps : List Addr) (more : List (Key × V)), x = .ref d ∧ xs = [.ref a] ∧ H d = some (.dK kvs) ∧ SqL K H a (ps.map V.ref) ∧ Paired (fun p kv => SqT K H p [kV kv.1, kv.2]) ps more ∧
  kvs.length + more.length ≤ sizeLine ∧ Q .non (upd H d (.dK (mergeK kvs more)))
theorem mt_update (hcalm : X.calm = true) : MtR X "dict.update" (rUpd X.K) := by
  intro pins s σ H x xs v us Q I rx rxs h
  obtain ⟨d, kvs, a, ps, more, rfl, rfl, ed, hq, hp, hz2, q⟩ := h
  cases rx
  obtain ⟨u, rfl, rx⟩ := vals1 rxs
  cases rx
  obtain ⟨z, hd, vs, rel0, dd⟩ := dk_of I.hok ed
  obtain ⟨its, rv, pl, hz⟩ := I.list hq
  have ei := refs_at rv
  subst ei
  rw [List.length_map] at hz
  obtain ⟨prs, rel, hl, hpr⟩ := pairs_of I hp
  obtain ⟨vps, v1, v2, v3⟩ := vps_of (prog := X.prog) (w := X.w) hl hpr
  let Ts : Nat → Addr := fun j => ps.getD j 0
  have P := PairArg.list (prog := X.prog) (w := X.w) a (ps.map Value.ref).toArray Ts vps
  obtain ⟨o, n, ho, hc, hdn, hdat⟩ := pl
  have ts : ∀ j b, ps[j]? = some b → Ts j = b := fun j b e => by
    show ps.getD j 0 = b
    rw [List.getD_eq_getElem?_getD, e]
    rfl
  have ok : PlainSeq "list" s.heap a (ps.map Value.ref).toArray ∧ PairItems s.heap (ps.map Value.ref).toArray Ts vps := by
    refine ⟨⟨o, n, ho, hc, hdn, hdat⟩, by simp [v1], fun j k v e => ?_⟩
    obtain ⟨b, e1, e2⟩ := v2 j k v e
    rw [ts j b e1]
    exact ⟨by simp [e1], .inl e2⟩
  have hdf : d ∉ a :: (List.range vps.length).map Ts := fun hm => by
    obtain ⟨od, hod, hcd⟩ := dd.typeIs
    rcases List.mem_cons.mp hm with e | hm
    · subst e
      rw [ho] at hod
      cases hod
      rw [hc] at hcd
      exact absurd hcd (by decide)
    · obtain ⟨j, hj, e⟩ := List.mem_map.mp hm
      have hj2 : j < vps.length := List.mem_range.mp hj
      obtain ⟨b, e1, o2, ho2, hc2, _⟩ := v2 j vps[j].1 vps[j].2 (by rw [List.getElem?_eq_getElem hj2])
      rw [ts j b e1] at e
      subst e
      rw [ho2] at hod
      cases hod
      rw [hc2] at hcd
      exact absurd hcd (by decide)
  have hml : more.length = vps.length := by rw [rel.length, hl, v1]
  have hkl : kvs.length = vs.length := rel0.length
  refine PySem.call_update_pairs (knd := mixKind X.prog X.w) (acc := vs) (kvs := prs) P (I.ok.hd hcalm) ok hdf ⟨hl.trans v1.symm, fun i key v rel => v3 i key v rel⟩ dd (by omega) fun h' tk hd' k => ?_
  have hlen : (mergeK kvs more).length ≤ sizeLine := Nat.le_trans (length_mergeK more kvs) hz2
  have hx : ∃ q, h'.get? d = some q := let ⟨q, _, _, hq, _⟩ := hd'; ⟨q, hq⟩
  exact ⟨.non, _, I.write (x := d) (e := d) (t' := tk) (by rw [ed]; exact True.intro) (.inl rfl) (fun b u hb e => k b u hb (by simp) e) hx (dk_new hlen hd (KV.merge rel rel0) hd'), rfl, q⟩
/-- d.update(a list of pairs) -/
def mUpd : DM := fun x xs G R => match x, xs with
  | .ref d, [y] => ∃ kvs l more, G d = some (.dK kvs) ∧ (∃ l', y = .rol l' ∧ l' = l) ∧ l.map keyed = more.map some ∧ kvs.length + more.length ≤ sizeLine ∧ R .non (updD G d (.dK (mergeD kvs more)))
  | _, _ => False
theorem md_update (hc : X.calm = true) : MD X "dict.update" mUpd := ⟨_, mt_update hc, fun T x xs H d ds G R Q hr r rs q cr => by
  unfold mUpd at q
  split at q
  · cases r
    cases rs with
    | cons r1 r2 =>
      cases r2
      obtain ⟨kvs, l, more, ed, ⟨l', e1, e2⟩, e3, hl, q⟩ := q
      subst e1 e2
      obtain ⟨ys, h1, h2⟩ := hr _ _ ed
      cases r1 with
      | rol hq rl =>
        obtain ⟨ps, zs, e4, e5, e6⟩ := keyed_v rl e3
        subst e4
        have u : ∀ o, Up H (upd H _ o) := fun o => Up.put h1 trivial
        exact ⟨_, ys, _, ps, zs, rfl, rfl, h1, hq.sqL, e5, by rw [h2.len, e6.len]; exact hl, cr _ _ _ _ (u _) (hr.put (c := .dK (mergeD kvs more)) h1 trivial ⟨_, upd_same, (KVr.merge e6 h2).up (u _)⟩) .non q⟩
  · exact False.elim q⟩
end
end Cc
/-! ### walking a text -/
namespace Cc
open PySem PySem.Spec PyProof.Rows L2
def signs (z : Str) : List D := z.cps.toList.map fun c => .str ⟨#[c]⟩
theorem src_str {K : KT} {H0 : Hp} (z : Str) : SrcOk K (Its z) (signs z) (fun _ => True) H0 where
  mono := fun _ _ _ h => h
  at_ := fun i H G u hr _ => by
    have hl : (signs z).length = z.cps.size := by unfold signs; rw [List.length_map, Array.length_toList]
    refine ⟨fun hi => ⟨show i < z.cps.size from by rw [← hl]; exact hi, fun x H' ⟨e, c, hc, ex⟩ => ?_⟩, fun hi => show z.cps.size ≤ i from by rw [← hl]; exact hi⟩
    subst e ex
    refine ⟨.str ⟨#[c]⟩, ?_, Up.refl _, hr, .str _⟩
    unfold signs
    rw [List.getElem?_map, Array.getElem?_toList, hc]
    rfl
def iStrD (da : DE) : DI := fun δ G RR EX => da δ G (fun d G1 => match d with
  | .str z => RR (signs z) (fun _ => True) G1
  | _ => False) EX
theorem pdi_str {X : Cx} {E : EK} {tg e : Expr} {de : DE} (he : PD X E e de) : PDI X E tg e (iStrD de) :=
  ⟨imI (pi_str he.pe) fun σ H R ⟨δ, G, RR, EX, sr, hr, h, cr, cx⟩ => ⟨δ, G, _, EX, sr, hr, h, fun v H1 d G1 u1 h1 r1 q1 => by
    dsimp only at q1
    split at q1
    · cases r1
      exact ⟨_, rfl, cr _ _ _ _ _ u1 h1 (src_str _) q1⟩
    · exact False.elim q1, cx⟩⟩
end Cc
/-! ### steps at known cells -/
namespace Cc
open PySem PySem.Spec PyProof.Rows L2
section
variable {G : DH} {a : Addr} {l : List D} {R : DK} {EX : DX}
theorem ty_lst (h : G a = some (.lst l)) : tyR G "list" (.ref a) := by unfold tyR; dsimp only; rw [h]
theorem ty_dK {kvs : List (Key × D)} (h : G a = some (.dK kvs)) : tyR G "dict" (.ref a) := by unfold tyR; dsimp only; rw [h]
theorem ty_dT {kvs : List (List Key × D)} (h : G a = some (.dT kvs)) : tyR G "dict" (.ref a) := by unfold tyR; dsimp only; rw [h]
theorem app_at {y : D} (h : G a = some (.lst l)) (hl : l.length < sizeLine) (q : R .non (updD G a (.lst (l ++ [y])))) : mAppend (.ref a) [y] G R := ⟨l, h, hl, q⟩
theorem pop_at {i : Int} {n : Nat} {y : D} (h : G a = some (.lst l)) (ei : i = n) (e : l[n]? = some y) (hl : l.length ≤ sizeLine) (q : R y (updD G a (.lst (l.eraseIdx n)))) : mPopAt (.ref a) [.int i] G R := by
  have hn : n < l.length := by
    rcases Nat.lt_or_ge n l.length with h | h
    · exact h
    · rw [List.getElem?_eq_none h] at e; cases e
  have z := sizeLine_eq
  refine ⟨l, n, y, h, by omega, by omega, ?_, e, q⟩
  subst ei
  unfold seqIndex?
  simp
  first | omega | exact hn
theorem off_at {m : Int} (h : G a = some (.lst l)) (dl : Draws l) (m0 : 0 < m) (m1 : m < 1073741824) (q : ∀ r l', 0 ≤ r → r < m → Draws l' → R (.int r) (updD G a (.lst l'))) : sd__law_off [.ref a, .int m] G R EX :=
  ⟨a, m, l, rfl, h, dl, m0, m1, q⟩
theorem ix_dk {kvs : List (Key × D)} {k : Str} {d : D} (h : G a = some (.dK kvs)) (e : lookK kvs (Sum.inr k) = some d) (q : R d G) : dIx (.ref a) (.str k) G R := by
  have e1 : itemOf G (.ref a) (.str k) = some d := by
    unfold itemOf
    dsimp only
    rw [h]
    exact e
  unfold dIx
  rw [e1]
  exact q
theorem set_dk {kvs : List (Key × D)} {k : Str} {v : D} {P : DH → Prop} (h : G a = some (.dK kvs)) (hl : kvs.length < sizeLine) (q : P (updD G a (.dK (putD kvs (Sum.inr k) v)))) : dSetD (.ref a) (.str k) v G P := by
  unfold dSetD
  dsimp only
  rw [h]
  exact ⟨_, rfl, hl, q⟩
theorem neE_at (h : G a = some (.lst l)) (q : R (.bl (!l.isEmpty)) G) : dNeE (.ref a) (.rol []) G R := ⟨l, h, q⟩
theorem eqE_at (h : G a = some (.lst l)) (q : R (.bl l.isEmpty) G) : dEqE (.ref a) (.rol []) G R := ⟨l, h, q⟩
theorem ixl_at {i : Int} {d : D} (h : G a = some (.lst l)) (e : L2.atI l i = some d) (q : R d G) : dIx (.ref a) (.int i) G R := ix_at h e q
end
end Cc
/-! ### plans: models, promises -/
namespace Pl
open PySem PySem.Spec PyProof.Rows L2 Cc
open PySem.W (EachIs AllAlike Sortable dataLe)
def oD : Option Int → D
  | none => .non
  | some i => .int i
def oP : Option Int → PyData
  | none => .none
  | some i => .int i
inductive Atom : D → Prop
  | non : Atom .non
  | bl (b : Bool) : Atom (.bl b)
  | int (i : Int) : Atom (.int i)
  | str (s : Str) : Atom (.str s)
theorem atom_oD (o : Option Int) : Atom (oD o) := by cases o; exact .non; exact .int _
def btw (x : D) (lo hi : Int) : Bool := match x with
  | .int i => decide (lo ≤ i) && decide (i ≤ hi)
  | _ => false
def isPlan : List D → Bool
  | [a, b, c, d] => btw a 0 999 && btw b 1 50 && (btw c 1 100 && btw d 1 12)
  | _ => false
structure Plan where
  b : Int
  l : Int
  e : Int
  m : Int
deriving DecidableEq
def Plan.ds (p : Plan) : List D := [.int p.b, .int p.l, .int p.e, .int p.m]
def Plan.d (p : Plan) : D := .tup p.ds
structure Plan.Ok (p : Plan) : Prop where
  b0 : 0 ≤ p.b
  b1 : p.b ≤ 999
  l0 : 1 ≤ p.l
  l1 : p.l ≤ 50
  e0 : 1 ≤ p.e
  e1 : p.e ≤ 100
  m0 : 1 ≤ p.m
  m1 : p.m ≤ 12
theorem isPlan_ok {p : Plan} (h : p.Ok) : isPlan p.ds = true := by
  obtain ⟨a, b, c, d, e, f, g, i⟩ := h
  simp only [isPlan, Plan.ds, btw, Bool.and_eq_true, decide_eq_true_eq]
  omega
theorem ok_of_isPlan {l : List D} (h : isPlan l = true) : ∃ p : Plan, l = p.ds ∧ p.Ok := by
  unfold isPlan at h
  split at h
  · rename_i a b c d
    simp only [Bool.and_eq_true] at h
    obtain ⟨⟨h1, h2⟩, h3, h4⟩ := h
    unfold btw at h1 h2 h3 h4
    split at h1
    · split at h2
      · split at h3
        · split at h4
          · simp only [Bool.and_eq_true, decide_eq_true_eq] at h1 h2 h3 h4
            exact ⟨⟨_, _, _, _⟩, rfl, h1.1, h1.2, h2.1, h2.2, h3.1, h3.2, h4.1, h4.2⟩
          · cases h4
        · cases h3
      · cases h2
    · cases h1
  · cases h
structure One where
  k : Int
  n : Int
  b : Option Int
deriving DecidableEq
def One.d (o : One) : D := .tup [.int o.k, .int o.n, oD o.b]
def onesD (os : List One) : D := .tup (os.map One.d)
/-- how often, and where to -/
def chg (os : List One) (k : Int) : Int × Option Int := match os.find? (fun o => decide (o.k = k)) with
  | some o => (o.n, o.b)
  | none => (0, none)
def byK (l : List One) : List One := l.mergeSort fun a b => decide (a.k ≤ b.k)
def changed (os : List One) (k : Int) (b : Option Int) : List One := byK (os.filter (fun o => !decide (o.k = k)) ++ [⟨k, (chg os k).1 + 1, b⟩])
structure Row where
  k : Nat
  b : Option Int
  n : Int
deriving DecidableEq
def Row.d (r : Row) : D := .tup [.int (r.k : Int), oD r.b, .int r.n]
def Row.p (r : Row) : PyData := .tuple [.int (r.k : Int), oP r.b, .int r.n]
def rowOf (p : Plan) (os : List One) (k : Nat) : Row := ⟨k, if (chg os k).1 = 0 then some (p.b + k * p.e) else (chg os k).2, (chg os k).1⟩
def rowsOf (p : Plan) (os : List One) : List Row := (List.range p.m.toNat).map (rowOf p os)
/-! the promises -/
def sd_is_between : SpD := fun ds G R _ => ∃ x lo hi, ds = [x, .int lo, .int hi] ∧ Atom x ∧ R (.bl (btw x lo hi)) G
def sd_is_plan : SpD := fun ds G R _ => ∃ l, ds = [.tup l] ∧ (∀ x ∈ l, Atom x) ∧ R (.bl (isPlan l)) G
def sd_need_plan (C : Addr) : SpD := fun ds G R EX => ∃ l, ds = [.tup l] ∧ (∀ x ∈ l, Atom x) ∧ (isPlan l = true → R .non G) ∧ (isPlan l = false → EX (.ref C) none G)
def sd_change_of : SpD := fun ds G R _ => ∃ os k, ds = [onesD os, .int k] ∧ R (.tup [.int (chg os k).1, oD (chg os k).2]) G
def sd_changed : SpD := fun ds G R _ => ∃ os k b, ds = [onesD os, .int k, oD b] ∧ os.length ≤ 1000 ∧ R (onesD (changed os k b)) G
def sd_rows_of : SpD := fun ds G R _ => ∃ (p : Plan) (os : List One), ds = [p.d, onesD os] ∧ 0 ≤ p.m ∧ p.m ≤ 1000 ∧ R (.rol ((rowsOf p os).map Row.d)) G
/-- the same, the list not read as a value -/
def sd_rows_of' : SpD := fun ds G R _ => ∃ (p : Plan) (os : List One), ds = [p.d, onesD os] ∧ 0 ≤ p.m ∧ p.m ≤ 1000 ∧ ∀ a, G a = none → R (.ref a) (updD G a (.lst ((rowsOf p os).map Row.d)))
/-! what changes come to -/
theorem byK_mem {l : List One} {o : One} : o ∈ byK l ↔ o ∈ l := (List.mergeSort_perm l _).mem_iff
/-- no two of the same number -/
def Ndk (os : List One) : Prop := (os.map (·.k)).Nodup
theorem ndk_perm {l l' : List One} (h : l.Perm l') (n : Ndk l) : Ndk l' := (h.map _).nodup_iff.mp n
theorem chg_of {os : List One} (n : Ndk os) {o : One} (h : o ∈ os) : chg os o.k = (o.n, o.b) := by
  unfold chg
  induction os with
  | nil => cases h
  | cons x xs ih =>
    obtain ⟨n1, n2⟩ := List.nodup_cons.mp n
    rcases List.mem_cons.mp h with rfl | h
    · rw [List.find?_cons_of_pos (by simp)]
    · have ne : x.k ≠ o.k := fun e => n1 (List.mem_map.mpr ⟨o, h, e.symm⟩)
      rw [List.find?_cons_of_neg (by simp [ne])]
      exact ih n2 h
theorem chg_none {os : List One} {k : Int} (h : ∀ o ∈ os, o.k ≠ k) : chg os k = (0, none) := by
  unfold chg
  rw [List.find?_eq_none.mpr fun o ho => by simp [h o ho]]
theorem chg_perm {l l' : List One} (h : l.Perm l') (n : Ndk l) (k : Int) : chg l k = chg l' k := by
  by_cases hk : ∃ o ∈ l, o.k = k
  · obtain ⟨o, ho, rfl⟩ := hk
    rw [chg_of n ho, chg_of (ndk_perm h n) (h.mem_iff.mp ho)]
  · have h1 : ∀ o ∈ l, o.k ≠ k := fun o ho e => hk ⟨o, ho, e⟩
    rw [chg_none h1, chg_none fun o ho => h1 o (h.mem_iff.mpr ho)]
theorem ndk_changed {os : List One} (n : Ndk os) (k : Int) (b : Option Int) : Ndk (changed os k b) := by
  refine ndk_perm (List.mergeSort_perm _ _).symm ?_
  unfold Ndk
  rw [List.map_append, List.nodup_append]
  refine ⟨n.sublist (List.filter_sublist.map _), by simp, fun a ha c hc e => ?_⟩
  obtain ⟨o, ho, rfl⟩ := List.mem_map.mp ha
  have := (List.mem_filter.mp ho).2
  simp at hc
  rw [e, hc] at this
  simp at this
theorem chg_changed {os : List One} (n : Ndk os) (k : Int) (b : Option Int) (j : Int) : chg (changed os k b) j = if j = k then ((chg os k).1 + 1, b) else chg os j := by
  have hn := ndk_changed n k b
  have mem : ∀ o, o ∈ changed os k b ↔ o ∈ os.filter (fun o => !decide (o.k = k)) ∨ o = ⟨k, (chg os k).1 + 1, b⟩ := fun o => by
    unfold changed
    rw [byK_mem, List.mem_append, List.mem_singleton]
  by_cases h : j = k
  · subst h
    rw [if_pos rfl]
    exact chg_of (o := ⟨j, (chg os j).1 + 1, b⟩) hn ((mem _).mpr (.inr rfl))
  · rw [if_neg h]
    by_cases hj : ∃ o ∈ os, o.k = j
    · obtain ⟨o, ho, rfl⟩ := hj
      rw [chg_of hn ((mem o).mpr (.inl (List.mem_filter.mpr ⟨ho, by simp [h]⟩))), chg_of n ho]
    · have h1 : ∀ o ∈ os, o.k ≠ j := fun o ho e => hj ⟨o, ho, e⟩
      rw [chg_none h1, chg_none fun o ho => ?_]
      rcases (mem o).mp ho with ho | rfl
      · exact h1 o (List.mem_filter.mp ho).1
      · exact fun e => h e.symm
theorem changed_len (os : List One) (k : Int) (b : Option Int) : (changed os k b).length ≤ os.length + 1 := by
  unfold changed byK
  rw [List.length_mergeSort, List.length_append]
  have := List.length_filter_le (fun o : One => !decide (o.k = k)) os
  simp
  omega
end Pl
/-! ### plans: readings -/
namespace Pl
open PySem PySem.Spec PyProof.Rows L2 Cc
def b_is_between : DSt :=
  (sRet (dAndV (dCB dIsi (dCons (dVar 0) (dCons (dC (.ty "int")) dNil))) (dAndV (dNotV (dCB dIsi (dCons (dVar 0) (dCons (dC (.ty "bool")) dNil)))) (dChain dLe dLe (dVar 1) (dVar 0) (dVar 2)))))
abbrev N_is_between : List Str := ["part", "low", "high"]
def b_is_plan : DSt :=
  (sSeq (sIf (dOr (dNot (dTest (dCB dIsi (dCons (dVar 0) (dCons (dC (.ty "tuple")) dNil))))) (dTest (dOp dNe (dCB dLen (dCons (dVar 0) dNil)) (dC (.int 4))))) (sRet (dC (.bl false))) sNext)
  (sSeq (sAsg (dVar 0) (gT 4 (gsCons (gN 1) (gsCons (gN 2) (gsCons (gN 3) (gsCons (gN 4) gsNil))))))
  (sSeq (sAsg (dAndV (dCall sd_is_between (dCons (dVar 1) (dCons (dC (.int 0)) (dCons (dC (.int 999)) dNil)))) (dCall sd_is_between (dCons (dVar 2) (dCons (dC (.int 1)) (dCons (dC (.int 50)) dNil))))) (gN 5))
  (sRet (dAndV (dVar 5) (dAndV (dCall sd_is_between (dCons (dVar 3) (dCons (dC (.int 1)) (dCons (dC (.int 100)) dNil)))) (dCall sd_is_between (dCons (dVar 4) (dCons (dC (.int 1)) (dCons (dC (.int 12)) dNil))))))))))
abbrev N_is_plan : List Str := ["plan", "begin", "long", "every", "many", "good"]
def b_need_plan (C_BadPlan : Addr) : DSt :=
  (sIf (dNot (dTest (dCall sd_is_plan (dCons (dVar 0) dNil)))) (sRaise C_BadPlan) sNext)
abbrev N_need_plan : List Str := ["plan"]
def b_is_name : DSt :=
  (sRet (dAndV (dCB dIsi (dCons (dVar 0) (dCons (dC (.ty "str")) dNil))) (dAndV (dOp dLe (dCB dLen (dCons (dVar 0) dNil)) (dC (.int 10))) (dOp dEq (dLcF (iSq (dVar 0)) (gN 1) (dTest (dOp dNotIn (dVar 1) (dC (.str "abcdefghijklmnopqrstuvwxyz")))) (dVar 1) [1]) (dLstF dNil)))))
abbrev N_is_name : List Str := ["text", "sign"]
def b_change_of : DSt :=
  (sSeq (sFor (iSq (dVar 0)) (gT 3 (gsCons (gN 2) (gsCons (gN 3) (gsCons (gN 4) gsNil)))) (sIf (dTest (dOp dEq (dVar 2) (dVar 1))) (sRet (dTup (dCons (dVar 3) (dCons (dVar 4) dNil)))) sNext))
  (sRet (dTup (dCons (dC (.int 0)) (dCons (dC .non) dNil)))))
abbrev N_change_of : List Str := ["ones", "k", "number", "often", "begin"]
def b_changed : DSt :=
  (sSeq (sAsg (dOp dAddF (dOp dIx (dCall sd_change_of (dCons (dVar 0) (dCons (dVar 1) dNil))) (dC (.int 0))) (dC (.int 1))) (gN 3))
  (sSeq (sAsg (dLcF (iSq (dVar 0)) (gN 5) (dTest (dOp dNe (dOp dIx (dVar 5) (dC (.int 0))) (dVar 1))) (dVar 5) [5]) (gN 4))
  (sRet (dCB dTupC (dCons (dSortGF PyData.int (kI 0) (dOp dAddF (dVar 4) (dLstF (dCons (dTup (dCons (dVar 1) (dCons (dVar 3) (dCons (dVar 2) dNil)))) dNil)))) dNil)))))
abbrev N_changed : List Str := ["ones", "k", "begin", "often", "rest", "row"]
def b_rows_of : DSt :=
  (sSeq (sAsg (dVar 0) (gT 4 (gsCons (gN 2) (gsCons (gN 3) (gsCons (gN 4) (gsCons (gN 5) gsNil))))))
  (sSeq (sAsg (dLst dNil) (gN 6))
  (sSeq (sFor (iRange1 (dVar 5)) (gN 7) (sSeq (sAsg (dCall sd_change_of (dCons (dVar 1) (dCons (dVar 7) dNil))) (gT 2 (gsCons (gN 8) (gsCons (gN 9) gsNil))))
  (sDrop (dBM "list" mAppend (dVar 6) (dCons (dTup (dCons (dVar 7) (dCons (dIf (dTest (dOp dEq (dVar 8) (dC (.int 0)))) (dOp dAddF (dVar 2) (dOp dMulF (dVar 7) (dVar 4))) (dVar 9)) (dCons (dVar 8) dNil)))) dNil)))))
  (sFz 6 (sRet (dVar 6))))))
abbrev N_rows_of : List Str := ["plan", "ones", "begin", "long", "every", "many", "found", "k", "often", "other"]
def b_rows_of' : DSt :=
  (sSeq (sAsg (dVar 0) (gT 4 (gsCons (gN 2) (gsCons (gN 3) (gsCons (gN 4) (gsCons (gN 5) gsNil))))))
  (sSeq (sAsg (dLst dNil) (gN 6))
  (sSeq (sFor (iRange1 (dVar 5)) (gN 7) (sSeq (sAsg (dCall sd_change_of (dCons (dVar 1) (dCons (dVar 7) dNil))) (gT 2 (gsCons (gN 8) (gsCons (gN 9) gsNil))))
  (sDrop (dBM "list" mAppend (dVar 6) (dCons (dTup (dCons (dVar 7) (dCons (dIf (dTest (dOp dEq (dVar 8) (dC (.int 0)))) (dOp dAddF (dVar 2) (dOp dMulF (dVar 7) (dVar 4))) (dVar 9)) (dCons (dVar 8) dNil)))) dNil)))))
  (sRet (dVar 6)))))
end Pl
/-! ### plans: the defs by their readings -/
namespace Pl
open PySem PySem.Spec PyProof.Rows L2 Cc
open PySem.W (EachIs AllAlike Sortable dataLe)
local macro_rules | `(tactic| walk_at "rd") => `(tactic| try simp only [sSeq, sIf, sAsg, sRet, sRetN, sDrop, sNext, gN, gT, gsCons, gsNil, gsNames, wipeD, D.tl, dTest, dAnd, dOr, dNot, dAndV, dOrV, dNotV, dIf, dOp, dUn, dVar, dC, dCons, dNil, dCB, dCall, dTup, dLst, dLstF, dYes, blD_bl, dEq_int, dNe_int, dEq_bl, dNe_bl, dEq_str, dChain, vadd_int, vadd_rol, vadd_tup, vmul_int, vsub_int, vlt_int, vle_int, vgt_int, vge_int, vmax_int, vmin_int, vneg_int, vlen_tup, vlen_rol, vtup_rol, vtup_tup, vlist_rol, vlist_tup, vix_tup, vix_rol, vat_0, vat_1, vat_2, vat_3, vat_4, vat_5, vat_6, vsl_tup, vsl_rol, visi_non_bool, visi_non_int, visi_non_str, visi_non_tuple, visi_non_list, visi_bl_bool, visi_bl_int, visi_bl_str, visi_bl_tuple, visi_bl_list, visi_int_bool, visi_int_int, visi_int_str, visi_int_tuple, visi_int_list, visi_str_bool, visi_str_int, visi_str_str, visi_str_tuple, visi_str_list, visi_tup_bool, visi_tup_int, visi_tup_str, visi_tup_tuple, visi_tup_list, visi_key_bool, visi_key_int, visi_key_str, visi_key_tuple, visi_key_list, visi_rol_bool, visi_rol_int, visi_rol_str, visi_rol_tuple, visi_rol_list, dBM, vtyL, vapp, vlen_upd, vix_upd, vsz_0, vsz_1, vsz_2, vsz_3, vsz_4, vsz_5, vsz_6, vsz_7, vsz_8, vsz_9, dIsN, dNotN, D.isN, List.getElem?_cons_zero, List.getElem?_cons_succ, List.set_cons_zero, List.set_cons_succ, List.length_cons, List.length_nil, decide_eq_true_eq, if_true, if_false, Bool.false_eq_true, ite_true, ite_false, true_and, and_true, Bool.not_true, Bool.not_false])
theorem pure_is_between (ds : List D) (G : DH) (R : DK) (EX : DX) (h : sd_is_between ds G R EX) : b_is_between (endsD (frg R) EX) (startD N_is_between ds) G := by
  obtain ⟨x, lo, hi, rfl, ha, q⟩ := h
  show b_is_between (endsD (frg R) EX) [some x, some (.int lo), some (.int hi)] G
  have q := frg_of q
  unfold b_is_between
  cases ha with
  | non => walk_at "rd"; exact q
  | str s => walk_at "rd"; exact q
  | bl b => walk_at "rd"; exact q
  | int i =>
    walk_at "rd"
    unfold btw at q
    dsimp only at q
    by_cases h : lo ≤ i
    · rw [if_pos h]
      rw [decide_eq_true h, Bool.true_and] at q
      exact q
    · rw [if_neg h]
      rw [decide_eq_false h, Bool.false_and] at q
      exact q
theorem pure_is_plan (ds : List D) (G : DH) (R : DK) (EX : DX) (h : sd_is_plan ds G R EX) : b_is_plan (endsD (frg R) EX) (startD N_is_plan ds) G := by
  obtain ⟨l, rfl, ha, q⟩ := h
  show b_is_plan (endsD (frg R) EX) [some (.tup l), none, none, none, none, none] G
  have q := frg_of q
  unfold b_is_plan
  walk_at "rd"
  by_cases hl : l.length = 4
  · match l, hl with
    | [a, b, c, d], _ =>
      walk_at "rd"
      rw [if_neg (by simp)]
      refine ⟨a, 0, 999, rfl, ha a (by simp), ?_⟩
      unfold isPlan at q
      dsimp only at q
      walk_at "rd"
      have k2 : ∀ g : Bool, g = (btw a 0 999 && btw b 1 50) → ∀ o : Option D, dAndV (dVar 5) (dAndV (dCall sd_is_between (dCons (dVar 3) (dCons (dC (.int 1)) (dCons (dC (.int 100)) dNil)))) (dCall sd_is_between (dCons (dVar 4) (dCons (dC (.int 1)) (dCons (dC (.int 12)) dNil))))) [some (.tup [a, b, c, d]), some a, some b, some c, some d, some (.bl g)] G (frg R) EX := fun g eg o => by
        subst eg
        walk_at "rd"
        by_cases hg : (btw a 0 999 && btw b 1 50) = true
        · rw [if_pos hg]
          rw [hg, Bool.true_and] at q
          refine ⟨c, 1, 100, rfl, ha c (by simp), ?_⟩
          walk_at "rd"
          by_cases hc : btw c 1 100 = true
          · rw [if_pos hc]
            rw [hc, Bool.true_and] at q
            exact ⟨d, 1, 12, rfl, ha d (by simp), q⟩
          · rw [if_neg hc]
            rw [Bool.eq_false_iff.mpr hc, Bool.false_and] at q
            exact q
        · rw [if_neg hg]
          rw [Bool.eq_false_iff.mpr hg, Bool.false_and] at q
          exact q
      by_cases h1 : btw a 0 999 = true
      · rw [if_pos h1]
        refine ⟨b, 1, 50, rfl, ha b (by simp), ?_⟩
        exact k2 _ (by rw [h1, Bool.true_and]) none
      · rw [if_neg h1]
        exact k2 false (by rw [Bool.eq_false_iff.mpr h1, Bool.false_and]) none
  · have : isPlan l = false := by
      unfold isPlan
      split
      · exact absurd rfl hl
      · rfl
    rw [this] at q
    rw [if_pos (by simp; omega)]
    exact q
theorem pure_need_plan (C : Addr) (ds : List D) (G : DH) (R : DK) (EX : DX) (h : sd_need_plan C ds G R EX) : b_need_plan C (endsD (frg R) EX) (startD N_need_plan ds) G := by
  obtain ⟨l, rfl, ha, q1, q2⟩ := h
  show b_need_plan C (endsD (frg R) EX) [some (.tup l)] G
  unfold b_need_plan
  walk_at "rd"
  refine ⟨l, rfl, ha, ?_⟩
  walk_at "rd"
  cases e : isPlan l with
  | true => exact frg_of (q1 e)
  | false => exact q2 e
theorem pure_change_of (ds : List D) (G : DH) (R : DK) (EX : DX) (h : sd_change_of ds G R EX) : b_change_of (endsD (frg R) EX) (startD N_change_of ds) G := by
  obtain ⟨os, k, rfl, q⟩ := h
  have q := frg_of q
  show b_change_of (endsD (frg R) EX) [some (onesD os), some (.int k), none, none, none] G
  unfold b_change_of sSeq sFor onesD
  rw [vsq_tup rfl]
  refine goFor_map (fun xs δ G' => δ.length = 5 ∧ (∃ o2 o3 o4, δ = [some (.tup (os.map One.d)), some (.int k), o2, o3, o4]) ∧ G' = G ∧ chg xs k = chg os k) (fun _ _ _ _ => trivial) (fun δ G' ⟨_, ⟨o2, o3, o4, e⟩, eG, ec⟩ => ?_) (fun x xs δ G' N ⟨_, ⟨o2, o3, o4, e⟩, eG, ec⟩ hN => ?_) _ _ _ ⟨rfl, ⟨_, _, _, rfl⟩, rfl, rfl⟩
  · subst e eG
    rw [← ec] at q
    walk_at "rd"
    exact q
  · subst e eG
    unfold One.d
    walk_at "rd"
    by_cases h : x.k = k
    · rw [if_pos h]
      have e : chg (x :: xs) k = (x.n, x.b) := by
        unfold chg
        rw [List.find?_cons_of_pos (by simp [h])]
      rw [← ec, e] at q
      exact q
    · rw [if_neg h]
      refine hN _ _ ⟨rfl, ⟨_, _, _, rfl⟩, rfl, ?_⟩
      rw [← ec]
      unfold chg
      rw [List.find?_cons_of_neg (by simp [h])]
theorem pure_changed (ds : List D) (G : DH) (R : DK) (EX : DX) (h : sd_changed ds G R EX) : b_changed (endsD (frg R) EX) (startD N_changed ds) G := by
  obtain ⟨os, k, b, rfl, hl, q⟩ := h
  have q := frg_of q
  show b_changed (endsD (frg R) EX) [some (onesD os), some (.int k), some (oD b), none, none, none] G
  unfold b_changed
  walk_at "rd"
  refine ⟨os, k, rfl, ?_⟩
  walk_at "rd"
  unfold dLcF onesD
  rw [vsq_tup rfl]
  refine goLcF_map (fun o : One => if o.k = k then none else some o.d) trivial (fun x C1 C2 hx => ?_) os [] (by simp; exact sz_small (by omega)) ?_
  · unfold One.d
    walk_at "rd"
    by_cases h : x.k = k
    · simp only [h, if_true] at hx
      simp only [h, decide_true, Bool.not_true, Bool.false_eq_true, if_false]
      exact hx
    · simp only [h, if_false] at hx
      simp only [h, decide_false, Bool.not_false, if_true]
      exact hx
  · have e : (os.filterMap fun o : One => if o.k = k then none else some o.d) = (os.filter fun o => !decide (o.k = k)).map One.d := by
      clear hl
      revert os
      intro os q q'
      clear q q'
      induction os with
      | nil => rfl
      | cons o os ih =>
        rw [List.filterMap_cons, List.filter_cons, ih]
        by_cases h : o.k = k
        · simp [h]
        · simp [h]
    rw [e, List.nil_append]
    walk_at "rd"
    simp only [dSortGF]
    walk_at "rd"
    have hf := List.length_filter_le (fun o : One => !decide (o.k = k)) os
    refine ⟨by rw [List.length_map]; exact sz_small (by omega), ?_⟩
    have e2 : ((os.filter fun o : One => !decide (o.k = k)).map One.d ++ [D.tup [.int k, .int ((chg os k).1 + 1), oD b]]) = ((os.filter fun o : One => !decide (o.k = k)) ++ [(⟨k, (chg os k).1 + 1, b⟩ : One)]).map One.d := by
      rw [List.map_append]; rfl
    rw [e2]
    refine ⟨_, ((os.filter fun o : One => !decide (o.k = k)) ++ [(⟨k, (chg os k).1 + 1, b⟩ : One)]).map One.k, rfl, ?_, ?_, ?_⟩
    · rw [List.map_map, List.map_map]
      refine List.map_congr_left fun o _ => rfl
    · rw [List.length_map, List.length_append]; exact sz_small (by simp; omega)
    · rw [sortG_map]
      exact q
theorem rows_loop {p : Plan} {os : List One} {f : Addr} {G : DH} {Dn : DEnds} (hm0 : 0 ≤ p.m) (hm : p.m ≤ 1000) (hf : G f = none)
    (q : ∀ o7 o8 o9, Dn.nx [some p.d, some (onesD os), some (.int p.b), some (.int p.l), some (.int p.e), some (.int p.m), some (.ref f), o7, o8, o9] (updD G f (.lst ((rowsOf p os).map Row.d)))) :
    sFor (iRange1 (dVar 5)) (gN 7) (sSeq (sAsg (dCall sd_change_of (dCons (dVar 1) (dCons (dVar 7) dNil))) (gT 2 (gsCons (gN 8) (gsCons (gN 9) gsNil))))
  (sDrop (dBM "list" mAppend (dVar 6) (dCons (dTup (dCons (dVar 7) (dCons (dIf (dTest (dOp dEq (dVar 8) (dC (.int 0)))) (dOp dAddF (dVar 2) (dOp dMulF (dVar 7) (dVar 4))) (dVar 9)) (dCons (dVar 8) dNil)))) dNil)))) Dn [some p.d, some (onesD os), some (.int p.b), some (.int p.l), some (.int p.e), some (.int p.m), some (.ref f), none, none, none] (updD G f (.lst [])) := by
  unfold sFor iRange1
  walk_at "rd"
  refine ⟨⟨by omega, by omega⟩, ?_⟩
  rw [rangeD_map]
  refine goFor_map (f := fun i : Nat => D.int (i : Int)) (fun xs δ G' => (∃ o7 o8 o9, δ = [some p.d, some (onesD os), some (.int p.b), some (.int p.l), some (.int p.e), some (.int p.m), some (.ref f), o7, o8, o9]) ∧ ∃ pre, pre ++ xs = List.range p.m.toNat ∧ G' = updD G f (.lst ((pre.map (rowOf p os)).map Row.d))) (fun _ _ _ _ => trivial) (fun δ G' ⟨⟨o7, o8, o9, e⟩, pre, ep, eG⟩ => ?_) (fun x xs δ G' N ⟨⟨o7, o8, o9, e⟩, pre, ep, eG⟩ hN => ?_) _ _ _ ⟨⟨_, _, _, rfl⟩, [], rfl, rfl⟩
  · subst e eG
    rw [List.append_nil] at ep
    subst ep
    exact q _ _ _
  · subst e eG
    walk_at "rd"
    refine ⟨os, x, rfl, ?_⟩
    walk_at "rd"
    have hx : x ≤ 1000 := by
      have h1 : x ∈ List.range p.m.toNat := by rw [← ep]; simp
      have := List.mem_range.mp h1
      omega
    have nxt : N [some p.d, some (onesD os), some (.int p.b), some (.int p.l), some (.int p.e), some (.int p.m), some (.ref f), some (.int x), some (.int (chg os x).1), some (oD (chg os x).2)] (updD G f (.lst ((pre.map (rowOf p os)).map Row.d ++ [(rowOf p os x).d]))) := hN _ _ ⟨⟨_, _, _, rfl⟩, pre ++ [x], by rw [List.append_assoc]; exact ep, by rw [List.map_append, List.map_append]; rfl⟩
    have hl : ((pre.map (rowOf p os)).map Row.d).length < sizeLine := by
      have := congrArg List.length ep
      rw [List.length_append, List.length_range, List.length_cons] at this
      rw [List.length_map, List.length_map]
      exact Nat.lt_of_lt_of_le (show pre.length < 100000 by omega) (by rw [sizeLine_eq]; omega)
    unfold rowOf Row.d at nxt
    dsimp only at nxt
    by_cases h0 : (chg os x).1 = 0
    · rw [if_pos h0] at nxt ⊢
      exact ⟨by unfold CMul; omega, hl, nxt⟩
    · rw [if_neg h0] at nxt ⊢
      exact ⟨hl, nxt⟩
theorem pure_rows_of (ds : List D) (G : DH) (R : DK) (EX : DX) (h : sd_rows_of ds G R EX) : b_rows_of (endsD (frg R) EX) (startD N_rows_of ds) G := by
  obtain ⟨p, os, rfl, hm0, hm, q⟩ := h
  have q := frg_of q
  show b_rows_of (endsD (frg R) EX) [some p.d, some (onesD os), none, none, none, none, none, none, none, none] G
  unfold b_rows_of Plan.d Plan.ds
  walk_at "rd"
  intro f hf
  refine rows_loop (p := p) hm0 hm hf fun o7 o8 o9 => ?_
  dsimp only
  refine sFz_lst rfl updD_same ?_
  rw [delD_updD hf]
  walk_at "rd"
  exact q
theorem pure_rows_of' (ds : List D) (G : DH) (R : DK) (EX : DX) (h : sd_rows_of' ds G R EX) : b_rows_of' (endsD (frg R) EX) (startD N_rows_of ds) G := by
  obtain ⟨p, os, rfl, hm0, hm, q⟩ := h
  show b_rows_of' (endsD (frg R) EX) [some p.d, some (onesD os), none, none, none, none, none, none, none, none] G
  unfold b_rows_of' Plan.d Plan.ds
  walk_at "rd"
  intro f hf
  refine rows_loop (p := p) hm0 hm hf fun o7 o8 o9 => ?_
  walk_at "rd"
  exact frg_of (q f hf)
end Pl
/-! ### the end: methods, classes, errors -/
namespace Cc
open PySem PySem.Spec PyProof.Rows L2
section
variable {P : Program} {w : World} {K : PySem.W.Frag} {T : List (Addr × Str)} {cv : Value → Prop} {mg : Str → Option Value} {base h : Heap} {N ps : List Str} {x m : Str} {k : Nat} {sb : DSt} {sd : SpD} {fa : List He.Fa} {fn : List He.DefD} {d : He.DefD}
theorem mkMt (X : K.In h) (G : h.Ns mainGlobals mg) (c : He.SaysD fa fn K) (hd : d ∈ fn) (hx : d.at_ = (x, some m)) (h1 : d.dfl = []) (h2 : d.kwd = []) (hg : He.Fa.meth x m ∈ fa) (S : FnScope N ps d.scope) (hcv : cv (.ref (He.codeOf K (x, some m))))
    (len : ∀ ds G R EX, sd ds G R EX → ds.length = ps.length) (B : BodyD P w K T cv mg base N d.qual d.scope d.body k sb) (hp : ∀ ds G R EX, sd ds G R EX → sb (endsD (frg R) EX) (startD N ds) G)
    (hb : ∀ (kV doc pm : Value) (an : Option Addr) (cdv ct : Value) (us : List Value), us.length = ps.length → bindArgs (PySem.W.fnOf d.name d.qual d.params d.body d.scope .none kV doc pm an cdv ct) ⟨us, []⟩ = pure (ps.zip us)) :
    Mt P w (K, T) mg base (He.ga K x) m (k + 1) ps sd := by
  obtain ⟨fd, F, e⟩ := defAt c hd h1 h2
  rw [hx] at F e
  exact ⟨_, fd, okF F S (by rw [e]; exact hcv) len B hp, He.meth_ok (c.facts hg), F.bindsN hb⟩
theorem mkMt0 (X : K.In h) (G : h.Ns mainGlobals mg) (c : He.SaysD fa fn K) (hd : d ∈ fn) (hx : d.at_ = (x, some m)) (h1 : d.dfl = []) (h2 : d.kwd = []) (hg : He.Fa.meth x m ∈ fa) (no : ∀ ds G R EX, ¬ sd ds G R EX)
    (hb : ∀ (kV doc pm : Value) (an : Option Addr) (cdv ct : Value) (us : List Value), us.length = ps.length → bindArgs (PySem.W.fnOf d.name d.qual d.params d.body d.scope .none kV doc pm an cdv ct) ⟨us, []⟩ = pure (ps.zip us)) :
    Mt P w (K, T) mg base (He.ga K x) m k ps sd := by
  obtain ⟨fd, F, e⟩ := defAt c hd h1 h2
  rw [hx] at F e
  exact ⟨_, fd, ⟨fun vs H Q E ⟨ds, G, R, EX, _, _, h, _⟩ => (no _ _ _ _ h).elim, fun A outer s H args us vs Q E _ _ _ _ ⟨ds, G, R, EX, _, _, h, _⟩ => (no _ _ _ _ h).elim⟩, He.meth_ok (c.facts hg), F.bindsN hb⟩
theorem mkMr (X : K.In h) (G : h.Ns mainGlobals mg) (c : He.SaysD fa fn K) (hd : d ∈ fn) (hx : d.at_ = (x, some ("__init__" : Str))) (h1 : d.dfl = []) (h2 : d.kwd = []) (hg : He.Fa.mkr x ∈ fa) (hgl : He.Fa.glo x ∈ fa) (S : FnScope N ps d.scope) (hcv : cv (.ref (He.codeOf K (x, some ("__init__" : Str)))))
    (len : ∀ ds G R EX, sd ds G R EX → ds.length = ps.length) (B : BodyD P w K T cv mg base N d.qual d.scope d.body k sb) (hp : ∀ ds G R EX, sd ds G R EX → sb (endsD (frg R) EX) (startD N ds) G)
    (hb : ∀ (kV doc pm : Value) (an : Option Addr) (cdv ct : Value) (us : List Value), us.length = ps.length → bindArgs (PySem.W.fnOf d.name d.qual d.params d.body d.scope .none kV doc pm an cdv ct) ⟨us, []⟩ = pure (ps.zip us)) :
    Mr P w (K, T) mg base x (He.ga K x) (k + 1) ps sd := by
  obtain ⟨fd, F, e⟩ := defAt c hd h1 h2
  rw [hx] at F e
  exact ⟨_, fd, okF F S (by rw [e]; exact hcv) len B hp, He.mkr_ok (c.facts hg), He.glo_ok X G (c.facts hgl), F.bindsN hb⟩
theorem glo_ref (X : K.In h) (G : h.Ns mainGlobals mg) {x : Str} (c : (He.Fa.glo x).ok K = true) : GloC K mg x (.ref (He.ga K x)) :=
  ⟨.ref _, _, He.glo_ok X G c, rfl, fun _ _ => .ref _⟩
theorem err_at (X : K.In h) (G : h.Ns mainGlobals mg) {x : Str} (c : (He.Fa.exc x).ok K = true) (c2 : (He.Fa.glo x).ok K = true) : ErrC K mg x (He.ga K x) := by
  obtain ⟨h1, h2, h3, h4⟩ := He.exc_ok c
  exact ⟨h1, He.glo_ok X G c2, h2, h3, h4⟩
theorem ref_at (X : K.In h) (G : h.Ns mainGlobals mg) (c : He.SaysD fa fn K) (hd : d ∈ fn) (hx : d.at_ = (x, none)) (h1 : d.dfl = []) (h2 : d.kwd = []) (hg : He.Fa.glo x ∈ fa) : ∃ (g : Addr) (fd : FuncData), FunD K d.name d.qual d.params d.body d.scope [] [] g fd ∧ mg x = some (.ref g) := by
  obtain ⟨fd, F, e⟩ := defAt c hd h1 h2
  rw [hx] at F
  exact ⟨_, fd, F, He.glo_ok X G (c.facts hg)⟩
end
theorem funD_uniq {K : PySem.W.Frag} {x q x2 q2 : Str} {p p2 : Arguments} {b b2 : List Stmt} {s s2 : Scope} {d d2 : List V} {k k2 : List (Str × V)} {f : Addr} {fd fd2 : FuncData} (F : FunD K x q p b s d k f fd) (F2 : FunD K x2 q2 p2 b2 s2 d2 k2 f fd2) : fd = fd2 := by
  obtain ⟨oc, od, _, _, _, _, _, _, _, osl, _, lk, _, _, _⟩ := F.ex
  obtain ⟨oc', od', _, _, _, _, _, _, _, osl', _, lk', _, _, _⟩ := F2.ex
  rw [lk] at lk'
  injection lk' with lk'
  injection lk' with _ _ e _
  injection e
theorem hu_of {TT : List (Addr × Str)} (nd : (TT.map (·.1)).Nodup) {P : Addr} {s : Str} (h : (P, s) ∈ TT) : ∀ q ∈ TT, q.1 = P → q.2 = s := by
  induction TT with
  | nil => cases h
  | cons t ts ih =>
    obtain ⟨n1, n2⟩ := List.nodup_cons.mp nd
    intro q hq e
    rcases List.mem_cons.mp h with h | h
    · rcases List.mem_cons.mp hq with hq | hq
      · rw [hq, ← h]
      · exact absurd (List.mem_map.mpr ⟨q, hq, by rw [e, ← h]⟩) n1
    · rcases List.mem_cons.mp hq with hq | hq
      · exact absurd (List.mem_map.mpr ⟨_, h, by rw [← hq]; exact e.symm⟩) n1
      · exact ih n2 h q hq e
end Cc
/-! ### hands: models, promises of records -/
namespace Hd
open PySem PySem.Spec PyProof.Rows L2 Cc Pl
open PySem.W (EachIs AllAlike Sortable dataLe)
/-- where the classes stand -/
structure CA where
  Record : Addr
  Hosted : Addr
  Asked : Addr
  Hand : Addr
  BadHand : Addr
  BadPlan : Addr
  BadWord : Addr
  NoMeeting : Addr
  BadLetter : Addr
abbrev Whole := Int × List (Int × Int) × Str
abbrev SOne := Int × Int × Int × Str
structure Say where
  n : Int
  whole : Option Whole
  ones : List SOne
  pass : Option Int
deriving DecidableEq
def nothing : Say := ⟨0, none, [], none⟩
def oft (p : Int × Int) : D := .tup [.int p.1, .int p.2]
def wholeD : Option Whole → D
  | none => .non
  | some (v, os, w) => .tup [.int v, .ptp (os.map oft), .str w]
def soneD (q : SOne) : D := .tup [.int q.1, .int q.2.1, .int q.2.2.1, .str q.2.2.2]
def Say.d (s : Say) : D := .tup [.int s.n, wholeD s.whole, .tup (s.ones.map soneD), oD s.pass]
abbrev Guest := Int × Option Int
def guestD (g : Guest) : D := .tup [.int g.1, oD g.2]
abbrev HSay := Int × Say
def hsayD (s : HSay) : D := .tup [.int s.1, s.2.d]
structure Rec where
  stamp : Int
  version : Int
  over : Bool
  plan : Plan
  note : Str
  ones : List One
  guests : List Guest
  says : List HSay
deriving DecidableEq
def Rec.ds (r : Rec) : List D := [.int r.stamp, .int r.version, .bl r.over, r.plan.d, .str r.note, onesD r.ones, .tup (r.guests.map guestD), .ptp (r.says.map hsayD)]
def Rec.d (r : Rec) : D := .tup r.ds
def Rec.fs (r : Rec) : List (Str × D) := [("stamp", .int r.stamp), ("version", .int r.version), ("over", .bl r.over), ("plan", r.plan.d), ("note", .str r.note), ("ones", onesD r.ones), ("guests", .tup (r.guests.map guestD)), ("says", .ptp (r.says.map hsayD))]
def byH {α : Type} (l : List (Int × α)) : List (Int × α) := l.mergeSort fun a b => decide (a.1 ≤ b.1)
def Rec.hands (r : Rec) : List Int := r.guests.map (·.1)
def Rec.sayOf (r : Rec) (h : Int) : Say := match r.says.find? (fun s => decide (s.1 = h)) with
  | some s => s.2
  | none => nothing
def Rec.grow (r : Rec) : Rec := { r with stamp := r.stamp + 1 }
def Rec.move (r : Rec) (b : Int) : Rec := { r with plan := { r.plan with b := b }, version := r.version + 1, ones := [], stamp := r.stamp + 1 }
def Rec.moveOne (r : Rec) (k : Int) (b : Option Int) : Rec := { r with ones := Pl.changed r.ones k b, stamp := r.stamp + 1 }
def Rec.hear (r : Rec) (h : Int) (s : Say) : Rec := { r with says := byH (r.says.filter (fun x => !decide (x.1 = h)) ++ [(h, s)]), stamp := r.stamp + 1 }
def Rec.add (r : Rec) (h : Int) (by_ : Option Int) (s : Say) : Rec := { r with guests := byH (r.guests ++ [(h, by_)]) }.hear h s
def Rec.drop (r : Rec) (h : Int) : Rec := { r with guests := r.guests.filter (fun x => !decide (x.1 = h)), says := r.says.filter (fun x => !decide (x.1 = h)), stamp := r.stamp + 1 }
def first (p : Plan) (gs : List Int) : Rec := ⟨1, 1, false, p, "", [], (sortI gs).map fun h => (h, none), []⟩
/-- what is said of one of the row -/
def wordOf (s : Say) (v : Int) (os : List One) (k : Int) : Str := match s.pass with
  | some _ => "passed"
  | none => match s.ones.find? (fun q => decide ((q.1, q.2.1, q.2.2.1) = (k, v, (chg os k).1))) with
    | some q => q.2.2.2
    | none => match s.whole with
      | some (v', oft, w) => if v' = v ∧ ((oft.find? fun p => decide (p.1 = k)).map (·.2)).getD 0 = (chg os k).1 then w else "asked"
      | none => "asked"
def wordsOf (s : Say) (v : Int) (os : List One) (m : Int) : List Str := (List.range m.toNat).map fun k : Nat => wordOf s v os k
structure Say.Ok (s : Say) : Prop where
  oft : ∀ v os w, s.whole = some (v, os, w) → (os.map (·.1)).Nodup ∧ os.length ≤ 1000
  ones : s.ones.length ≤ 1000
structure Rec.Ok (r : Rec) : Prop where
  plan : r.plan.Ok
  ones : r.ones.length ≤ 100
  guests : r.guests.length ≤ 100
  says : r.says.length ≤ 100
  nd : (r.says.map (·.1)).Nodup
  say : ∀ s ∈ r.says, s.2.Ok
/-- a row of a book -/
structure ToldG where
  h : Int
  by_ : Option Int
  words : List Str
structure Told where
  host : Int
  number : Int
  version : Int
  note : Str
  long : Int
  rows : List Pl.Row
  guests : List ToldG
def ToldG.d (g : ToldG) : D := .tup [.int g.h, oD g.by_, .rol (g.words.map .str)]
def Told.d (t : Told) : D := .tup [.int t.host, .int t.number, .int t.version, .str t.note, .int t.long, .rol (t.rows.map Pl.Row.d), .rol (t.guests.map ToldG.d)]
def Rec.told (r : Rec) (host number : Int) (me : Option Int) (mine : Say) : Told :=
  ⟨host, number, r.version, r.note, r.plan.l, rowsOf r.plan r.ones, r.guests.map fun g => ⟨g.1, g.2, wordsOf (if some g.1 = me then mine else r.sayOf g.1) r.version r.ones r.plan.m⟩⟩
/-! the promises -/
def RecAt (ca : CA) (G : DH) (a : Addr) (r : Rec) : Prop := G a = some (.ins ca.Record r.fs)
def putR (ca : CA) (G : DH) (a : Addr) (r : Rec) : DH := updD G a (.ins ca.Record r.fs)
def sd_oftens_of : SpD := fun ds G R _ => ∃ os, ds = [onesD os] ∧ os.length ≤ 1000 ∧ R (.ptp (os.map fun o => oft (o.k, o.n))) G
def sd_word_of : SpD := fun ds G R _ => ∃ (s : Say) (v : Int) (os : List One) (k : Int), ds = [s.d, .int v, onesD os, .int k] ∧ s.Ok ∧ R (.str (wordOf s v os k)) G
def sd_words_of : SpD := fun ds G R _ => ∃ (s : Say) (v : Int) (os : List One) (m : Int), ds = [s.d, .int v, onesD os, .int m] ∧ s.Ok ∧ 0 ≤ m ∧ m ≤ 1000 ∧ R (.rol ((wordsOf s v os m).map .str)) G
def sd_Record__init_ (ca : CA) : SpD := fun ds G R _ => ∃ a r, ds = [.ref a, r.d] ∧ G a = some (.ins ca.Record []) ∧ R .non (putR ca G a r)
def sd_Record_parts (ca : CA) : SpD := fun ds G R _ => ∃ a r, ds = [.ref a] ∧ RecAt ca G a r ∧ R r.d G
def sd_Record_hands (ca : CA) : SpD := fun ds G R _ => ∃ a r, ds = [.ref a] ∧ RecAt ca G a r ∧ r.Ok ∧ R (.rol (r.hands.map .int)) G
def sd_Record_say_of (ca : CA) : SpD := fun ds G R _ => ∃ a r h, ds = [.ref a, .int h] ∧ RecAt ca G a r ∧ r.Ok ∧ R (r.sayOf h).d G
def sd_Record_grow (ca : CA) : SpD := fun ds G R _ => ∃ a r, ds = [.ref a] ∧ RecAt ca G a r ∧ R .non (putR ca G a r.grow)
def sd_Record_move (ca : CA) : SpD := fun ds G R _ => ∃ a r b, ds = [.ref a, .int b] ∧ RecAt ca G a r ∧ R .non (putR ca G a (r.move b))
def sd_Record_move_one (ca : CA) : SpD := fun ds G R _ => ∃ a r k b, ds = [.ref a, .int k, oD b] ∧ RecAt ca G a r ∧ r.Ok ∧ R .non (putR ca G a (r.moveOne k b))
def sd_Record_add (ca : CA) : SpD := fun ds G R _ => ∃ a r h b s, ds = [.ref a, .int h, oD b, s.d] ∧ RecAt ca G a r ∧ r.guests.length ≤ 1000 ∧ r.says.length ≤ 1000 ∧ R .non (putR ca G a (r.add h b s))
def sd_Record_drop (ca : CA) : SpD := fun ds G R _ => ∃ a r h, ds = [.ref a, .int h] ∧ RecAt ca G a r ∧ r.Ok ∧ R .non (putR ca G a (r.drop h))
def sd_Record_hear (ca : CA) : SpD := fun ds G R _ => ∃ a r h s, ds = [.ref a, .int h, s.d] ∧ RecAt ca G a r ∧ r.says.length ≤ 1000 ∧ R .non (putR ca G a (r.hear h s))
def sd_Record_rows (ca : CA) : SpD := fun ds G R _ => ∃ a r, ds = [.ref a] ∧ RecAt ca G a r ∧ r.Ok ∧ R (.rol ((rowsOf r.plan r.ones).map Pl.Row.d)) G
def sd_Record_told (ca : CA) : SpD := fun ds G R _ => ∃ a r host number me mine, ds = [.ref a, .int host, .int number, oD me, mine.d] ∧ RecAt ca G a r ∧ r.Ok ∧ mine.Ok ∧ R (r.told host number me mine).d G
def sd_first_record (ca : CA) : SpD := fun ds G R _ => ∃ (p : Plan) (gs : List Int), ds = [p.d, .tup (gs.map .int)] ∧ gs.length ≤ 100 ∧ ∀ a, G a = none → R (.ref a) (putR ca G a (first p gs))
end Hd
/-! ### records: readings -/
namespace Hd
open PySem PySem.Spec PyProof.Rows L2 Cc Pl
def b_oftens_of : DSt :=
  (sRet (dCB dTupCP (dCons (dLcF (iSq (dVar 0)) (gT 3 (gsNames [1, 2, 3])) dYes (dTup (dCons (dVar 1) (dCons (dVar 2) dNil))) [1, 2, 3]) dNil)))
abbrev N_oftens_of : List Str := ["ones", "k", "often", "begin"]
def b_word_of : DSt :=
  (sSeq (sIf (dTest (dOp dNotN (dOp dIx (dVar 0) (dC (.int 3))) (dC .non))) (sRet (dC (.str "passed"))) sNext)
  (sSeq (sAsg (dOp dIx (dCall Pl.sd_change_of (dCons (dVar 2) (dCons (dVar 3) dNil))) (dC (.int 0))) (gN 4))
  (sSeq (sFor (iSq (dOp dIx (dVar 0) (dC (.int 2)))) (gT 4 (gsCons (gN 5) (gsCons (gN 6) (gsCons (gN 7) (gsCons (gN 8) gsNil))))) (sIf (dTest (dOp dEq (dTup (dCons (dVar 5) (dCons (dVar 6) (dCons (dVar 7) dNil)))) (dTup (dCons (dVar 3) (dCons (dVar 1) (dCons (dVar 4) dNil)))))) (sRet (dVar 8)) sNext))
  (sSeq (sIf (dAnd (dTest (dOp dNotN (dOp dIx (dVar 0) (dC (.int 1))) (dC .non))) (dAnd (dTest (dOp dEq (dOp dIx (dOp dIx (dVar 0) (dC (.int 1))) (dC (.int 0))) (dVar 1))) (dTest (dOp dEq (dGet2 (dCB dDictF (dCons (dOp dIx (dOp dIx (dVar 0) (dC (.int 1))) (dC (.int 1))) dNil)) (dVar 3) (dC (.int 0))) (dVar 4))))) (sRet (dOp dIx (dOp dIx (dVar 0) (dC (.int 1))) (dC (.int 2)))) sNext)
  (sRet (dC (.str "asked")))))))
abbrev N_word_of : List Str := ["say", "version", "ones", "k", "often", "number", "one_version", "one_often", "word"]
def b_words_of : DSt :=
  (sRet (dLcF (iRange1 (dVar 3)) (gN 4) dYes (dCall sd_word_of (dCons (dVar 0) (dCons (dVar 1) (dCons (dVar 2) (dCons (dVar 4) dNil))))) [4]))
abbrev N_words_of : List Str := ["say", "version", "ones", "many", "k"]
def b_Record__init_ (ca : CA) : DSt :=
  (sAsg (dVar 1) (gT 8 (gsCons (gF ca.Record "stamp" (dVar 0)) (gsCons (gF ca.Record "version" (dVar 0)) (gsCons (gF ca.Record "over" (dVar 0)) (gsCons (gF ca.Record "plan" (dVar 0)) (gsCons (gF ca.Record "note" (dVar 0)) (gsCons (gF ca.Record "ones" (dVar 0)) (gsCons (gF ca.Record "guests" (dVar 0)) (gsCons (gF ca.Record "says" (dVar 0)) gsNil))))))))))
abbrev N_Record__init_ : List Str := ["self", "parts"]
def b_Record_parts (ca : CA) : DSt :=
  (sRet (dTup (dCons (dFld ca.Record "stamp" (dVar 0)) (dCons (dFld ca.Record "version" (dVar 0)) (dCons (dFld ca.Record "over" (dVar 0)) (dCons (dFld ca.Record "plan" (dVar 0)) (dCons (dFld ca.Record "note" (dVar 0)) (dCons (dFld ca.Record "ones" (dVar 0)) (dCons (dFld ca.Record "guests" (dVar 0)) (dCons (dFld ca.Record "says" (dVar 0)) dNil))))))))))
abbrev N_Record_parts : List Str := ["self"]
def b_Record_hands (ca : CA) : DSt :=
  (sRet (dLcF (iSq (dFld ca.Record "guests" (dVar 0))) (gT 2 (gsNames [1, 2])) dYes (dVar 1) [1, 2]))
abbrev N_Record_hands : List Str := ["self", "hand", "by"]
def b_Record_say_of (ca : CA) : DSt :=
  (sRet (dGet2 (dCB dDictF (dCons (dFld ca.Record "says" (dVar 0)) dNil)) (dVar 1) (dC (.tup [(.int 0), .non, (.tup []), .non]))))
abbrev N_Record_say_of : List Str := ["self", "hand"]
def b_Record_grow (ca : CA) : DSt :=
  (sFldD ca.Record "stamp" (dVar 0) (dOp dAddF (dFld ca.Record "stamp" (dVar 0)) (dC (.int 1))))
abbrev N_Record_grow : List Str := ["self"]
def b_Record_move (ca : CA) : DSt :=
  (sSeq (sFldD ca.Record "plan" (dVar 0) (dOp dAddF (dTup (dCons (dVar 1) dNil)) (dSl sSlF (dFld ca.Record "plan" (dVar 0)) (oSome (dC (.int 1))) oNo)))
  (sSeq (sFldD ca.Record "version" (dVar 0) (dOp dAddF (dFld ca.Record "version" (dVar 0)) (dC (.int 1))))
  (sSeq (sFldD ca.Record "ones" (dVar 0) (dTup dNil))
  (sDrop (dMeth ca.Record "grow" (sd_Record_grow ca) (dVar 0) dNil)))))
abbrev N_Record_move : List Str := ["self", "begin"]
def b_Record_move_one (ca : CA) : DSt :=
  (sSeq (sFldD ca.Record "ones" (dVar 0) (dCall Pl.sd_changed (dCons (dFld ca.Record "ones" (dVar 0)) (dCons (dVar 1) (dCons (dVar 2) dNil)))))
  (sDrop (dMeth ca.Record "grow" (sd_Record_grow ca) (dVar 0) dNil)))
abbrev N_Record_move_one : List Str := ["self", "k", "begin"]
def b_Record_add (ca : CA) : DSt :=
  (sSeq (sFldD ca.Record "guests" (dVar 0) (dCB dTupC (dCons (dSortGF PyData.int (kI 0) (dOp dAddF (dFld ca.Record "guests" (dVar 0)) (dTup (dCons (dTup (dCons (dVar 1) (dCons (dVar 2) dNil))) dNil)))) dNil)))
  (sDrop (dMeth ca.Record "hear" (sd_Record_hear ca) (dVar 0) (dCons (dVar 1) (dCons (dVar 3) dNil)))))
abbrev N_Record_add : List Str := ["self", "hand", "by", "say"]
def b_Record_drop (ca : CA) : DSt :=
  (sSeq (sFldD ca.Record "guests" (dVar 0) (dCB dTupC (dCons (dLcF (iSq (dFld ca.Record "guests" (dVar 0))) (gN 2) (dTest (dOp dNe (dOp dIx (dVar 2) (dC (.int 0))) (dVar 1))) (dVar 2) [2]) dNil)))
  (sSeq (sFldD ca.Record "says" (dVar 0) (dCB dTupCP (dCons (dLcF (iSq (dFld ca.Record "says" (dVar 0))) (gN 2) (dTest (dOp dNe (dOp dIx (dVar 2) (dC (.int 0))) (dVar 1))) (dVar 2) [2]) dNil)))
  (sDrop (dMeth ca.Record "grow" (sd_Record_grow ca) (dVar 0) dNil))))
abbrev N_Record_drop : List Str := ["self", "hand", "row"]
def b_Record_hear (ca : CA) : DSt :=
  (sSeq (sAsg (dLcF (iSq (dFld ca.Record "says" (dVar 0))) (gN 4) (dTest (dOp dNe (dOp dIx (dVar 4) (dC (.int 0))) (dVar 1))) (dVar 4) [4]) (gN 3))
  (sSeq (sFldD ca.Record "says" (dVar 0) (dCB dTupCP (dCons (dSortGF PyData.int (kI 0) (dOp dAddF (dVar 3) (dLstF (dCons (dTup (dCons (dVar 1) (dCons (dVar 2) dNil))) dNil)))) dNil)))
  (sDrop (dMeth ca.Record "grow" (sd_Record_grow ca) (dVar 0) dNil))))
abbrev N_Record_hear : List Str := ["self", "hand", "say", "rest", "row"]
def b_Record_rows (ca : CA) : DSt :=
  (sRet (dCall Pl.sd_rows_of (dCons (dFld ca.Record "plan" (dVar 0)) (dCons (dFld ca.Record "ones" (dVar 0)) dNil))))
abbrev N_Record_rows : List Str := ["self"]
def b_Record_told (ca : CA) : DSt :=
  (sSeq (sAsg (dLst dNil) (gN 5))
  (sSeq (sFor (iSq (dFld ca.Record "guests" (dVar 0))) (gT 2 (gsCons (gN 6) (gsCons (gN 7) gsNil))) (sSeq (sAsg (dIf (dTest (dOp dEq (dVar 6) (dVar 3))) (dVar 4) (dMeth ca.Record "say_of" (sd_Record_say_of ca) (dVar 0) (dCons (dVar 6) dNil))) (gN 8))
  (sDrop (dBM "list" mAppend (dVar 5) (dCons (dTup (dCons (dVar 6) (dCons (dVar 7) (dCons (dCall sd_words_of (dCons (dVar 8) (dCons (dFld ca.Record "version" (dVar 0)) (dCons (dFld ca.Record "ones" (dVar 0)) (dCons (dOp dIx (dFld ca.Record "plan" (dVar 0)) (dC (.int 3))) dNil))))) dNil)))) dNil)))))
  (sFz 5 (sRet (dTup (dCons (dVar 1) (dCons (dVar 2) (dCons (dFld ca.Record "version" (dVar 0)) (dCons (dFld ca.Record "note" (dVar 0)) (dCons (dOp dIx (dFld ca.Record "plan" (dVar 0)) (dC (.int 1))) (dCons (dMeth ca.Record "rows" (sd_Record_rows ca) (dVar 0) dNil) (dCons (dVar 5) dNil))))))))))))
abbrev N_Record_told : List Str := ["self", "host", "number", "me", "mine", "guests", "hand", "by", "say"]
def b_first_record (ca : CA) : DSt :=
  (sRet (dMake ca.Record (sd_Record__init_ ca) (dCons (dTup (dCons (dC (.int 1)) (dCons (dC (.int 1)) (dCons (dC (.bl false)) (dCons (dVar 0) (dCons (dC (.str "")) (dCons (dTup dNil) (dCons (dCB dTupC (dCons (dLcF (iSq (dCB dSortedF (dCons (dVar 1) dNil))) (gN 2) dYes (dTup (dCons (dVar 2) (dCons (dC .non) dNil))) [2]) dNil)) (dCons (dTupP dNil) dNil))))))))) dNil)))
abbrev N_first_record : List Str := ["plan", "guests", "hand"]
end Hd
/-! ### hands: the records' defs by their readings -/
namespace Hd
open PySem PySem.Spec PyProof.Rows L2 Cc Pl
open PySem.W (EachIs AllAlike Sortable dataLe)
local macro_rules | `(tactic| walk_at "rd") => `(tactic| try simp only [sSeq, sIf, sAsg, sRet, sRetN, sDrop, sNext, gN, gT, gsCons, gsNil, gsNames, wipeD, D.tl, dTest, dAnd, dOr, dNot, dAndV, dOrV, dNotV, dIf, dOp, dUn, dVar, dC, dCons, dNil, dCB, dCall, dTup, dLst, dLstF, dYes, blD_bl, dEq_int, dNe_int, dEq_bl, dNe_bl, dEq_str, dChain, vadd_int, vadd_rol, vadd_tup, vmul_int, vsub_int, vlt_int, vle_int, vgt_int, vge_int, vmax_int, vmin_int, vneg_int, vlen_tup, vlen_rol, vtup_rol, vtup_tup, vlist_rol, vlist_tup, vix_tup, vix_rol, vat_0, vat_1, vat_2, vat_3, vat_4, vat_5, vat_6, vsl_tup, vsl_rol, visi_non_bool, visi_non_int, visi_non_str, visi_non_tuple, visi_non_list, visi_bl_bool, visi_bl_int, visi_bl_str, visi_bl_tuple, visi_bl_list, visi_int_bool, visi_int_int, visi_int_str, visi_int_tuple, visi_int_list, visi_str_bool, visi_str_int, visi_str_str, visi_str_tuple, visi_str_list, visi_tup_bool, visi_tup_int, visi_tup_str, visi_tup_tuple, visi_tup_list, visi_key_bool, visi_key_int, visi_key_str, visi_key_tuple, visi_key_list, visi_rol_bool, visi_rol_int, visi_rol_str, visi_rol_tuple, visi_rol_list, dBM, vtyL, vapp, vlen_upd, vix_upd, vsz_0, vsz_1, vsz_2, vsz_3, vsz_4, vsz_5, vsz_6, vsz_7, vsz_8, vsz_9, dIsN, dNotN, D.isN, List.getElem?_cons_zero, List.getElem?_cons_succ, List.set_cons_zero, List.set_cons_succ, List.length_cons, List.length_nil, decide_eq_true_eq, if_true, if_false, Bool.false_eq_true, ite_true, ite_false, true_and, and_true, Bool.not_true, Bool.not_false])
section
variable (r : Rec)
theorem lk_stamp : List.lookup ("stamp" : Str) r.fs = some (.int r.stamp) := rfl
theorem lk_version : List.lookup ("version" : Str) r.fs = some (.int r.version) := rfl
theorem lk_over : List.lookup ("over" : Str) r.fs = some (.bl r.over) := rfl
theorem lk_plan : List.lookup ("plan" : Str) r.fs = some r.plan.d := rfl
theorem lk_note : List.lookup ("note" : Str) r.fs = some (.str r.note) := rfl
theorem lk_ones : List.lookup ("ones" : Str) r.fs = some (onesD r.ones) := rfl
theorem lk_guests : List.lookup ("guests" : Str) r.fs = some (.tup (r.guests.map guestD)) := rfl
theorem lk_says : List.lookup ("says" : Str) r.fs = some (.ptp (r.says.map hsayD)) := rfl
theorem lk_grow : List.lookup ("grow" : Str) r.fs = none := rfl
theorem lk_move : List.lookup ("move" : Str) r.fs = none := rfl
theorem lk_move_one : List.lookup ("move_one" : Str) r.fs = none := rfl
theorem lk_add : List.lookup ("add" : Str) r.fs = none := rfl
theorem lk_drop : List.lookup ("drop" : Str) r.fs = none := rfl
theorem lk_hear : List.lookup ("hear" : Str) r.fs = none := rfl
theorem lk_rows : List.lookup ("rows" : Str) r.fs = none := rfl
theorem lk_told : List.lookup ("told" : Str) r.fs = none := rfl
theorem lk_hands : List.lookup ("hands" : Str) r.fs = none := rfl
theorem lk_say_of : List.lookup ("say_of" : Str) r.fs = none := rfl
theorem lk_parts : List.lookup ("parts" : Str) r.fs = none := rfl
theorem fs_len : r.fs.length = 8 := rfl
theorem pf_stamp (i : Int) : putFD "stamp" (.int i) r.fs = Rec.fs { r with stamp := i } := rfl
theorem pf_version (i : Int) : putFD "version" (.int i) r.fs = Rec.fs { r with version := i } := rfl
theorem pf_over (b : Bool) : putFD "over" (.bl b) r.fs = Rec.fs { r with over := b } := rfl
theorem pf_plan (p : Plan) : putFD "plan" p.d r.fs = Rec.fs { r with plan := p } := rfl
theorem pf_note (z : Str) : putFD "note" (.str z) r.fs = Rec.fs { r with note := z } := rfl
theorem pf_ones (os : List One) : putFD "ones" (onesD os) r.fs = Rec.fs { r with ones := os } := rfl
theorem pf_guests (gs : List Guest) : putFD "guests" (.tup (gs.map guestD)) r.fs = Rec.fs { r with guests := gs } := rfl
theorem pf_says (ss : List HSay) : putFD "says" (.ptp (ss.map hsayD)) r.fs = Rec.fs { r with says := ss } := rfl
end
theorem pf_ones0 (r : Rec) : putFD "ones" (.tup []) r.fs = Rec.fs { r with ones := [] } := rfl
theorem vsl_plan {p : Plan} {G : DH} {R : DK} : sSlF p.d (some 1) none G R = R (.tup [.int p.l, .int p.e, .int p.m]) G := rfl
theorem pf_plan2 (r : Rec) (b l e m : Int) : putFD "plan" (.tup ([.int b] ++ [.int l, .int e, .int m])) r.fs = Rec.fs { r with plan := ⟨b, l, e, m⟩ } := rfl
theorem vix_plan1 {p : Plan} {G : DH} {R : DK} : dIx p.d (.int 1) G R = R (.int p.l) G := rfl
theorem vix_plan3 {p : Plan} {G : DH} {R : DK} : dIx p.d (.int 3) G R = R (.int p.m) G := rfl
theorem lt8 : (8 : Nat) < 1000 := by decide
local macro_rules | `(tactic| walk_at "hd") => `(tactic| try simp only [sSeq, sIf, sAsg, sRet, sRetN, sDrop, sNext, gN, gT, gsCons, gsNil, gsNames, wipeD, D.tl, dTest, dAnd, dOr, dNot, dAndV, dOrV, dNotV, dIf, dOp, dUn, dVar, dC, dCons, dNil, dCB, dCall, dTup, dLst, dLstF, dYes, blD_bl, dEq_int, dNe_int, dEq_bl, dNe_bl, dEq_str, dChain, vadd_int, vadd_rol, vadd_tup, vmul_int, vsub_int, vlt_int, vle_int, vgt_int, vge_int, vmax_int, vmin_int, vneg_int, vlen_tup, vlen_rol, vtup_rol, vtup_tup, vlist_rol, vlist_tup, vix_tup, vix_rol, vat_0, vat_1, vat_2, vat_3, vat_4, vat_5, vat_6, vsl_tup, vsl_rol, visi_non_bool, visi_non_int, visi_non_str, visi_non_tuple, visi_non_list, visi_bl_bool, visi_bl_int, visi_bl_str, visi_bl_tuple, visi_bl_list, visi_int_bool, visi_int_int, visi_int_str, visi_int_tuple, visi_int_list, visi_str_bool, visi_str_int, visi_str_str, visi_str_tuple, visi_str_list, visi_tup_bool, visi_tup_int, visi_tup_str, visi_tup_tuple, visi_tup_list, visi_key_bool, visi_key_int, visi_key_str, visi_key_tuple, visi_key_list, visi_rol_bool, visi_rol_int, visi_rol_str, visi_rol_tuple, visi_rol_list, dBM, vtyL, vapp, vlen_upd, vix_upd, vsz_0, vsz_1, vsz_2, vsz_3, vsz_4, vsz_5, vsz_6, vsz_7, vsz_8, vsz_9, dIsN, dNotN, D.isN, List.getElem?_cons_zero, List.getElem?_cons_succ, List.set_cons_zero, List.set_cons_succ, List.length_cons, List.length_nil, decide_eq_true_eq, if_true, if_false, Bool.false_eq_true, ite_true, ite_false, true_and, and_true, Bool.not_true, Bool.not_false, dFld, sFldD, gF, dMeth, dMake, dTupP, dSl, oSome, oNo, updD_same, updD_updD, lk_stamp, lk_version, lk_over, lk_plan, lk_note, lk_ones, lk_guests, lk_says, lk_grow, lk_move, lk_move_one, lk_add, lk_drop, lk_hear, lk_rows, lk_told, lk_hands, lk_say_of, lk_parts, pf_stamp, pf_version, pf_over, pf_plan, pf_note, pf_ones, pf_ones0, pf_guests, pf_says, fs_len, lt8, vsl_plan, pf_plan2, vix_plan1, vix_plan3])
theorem fm_filter {α : Type} {f : α → D} (p : α → Bool) : ∀ l : List α, (l.filterMap fun x => if p x = true then some (f x) else none) = (l.filter p).map f
  | [] => rfl
  | x :: l => by
    rw [List.filterMap_cons, List.filter_cons, fm_filter p l]
    cases p x <;> rfl
theorem pure_Record__init_ (ca : CA) (ds : List D) (G : DH) (R : DK) (EX : DX) (h : sd_Record__init_ ca ds G R EX) : b_Record__init_ ca (endsD (frg R) EX) (startD N_Record__init_ ds) G := by
  obtain ⟨a, r, rfl, h, q⟩ := h
  show b_Record__init_ ca (endsD (frg R) EX) [some (.ref a), some r.d] G
  unfold b_Record__init_ Rec.d Rec.ds
  walk_at "rd"
  simp only [gF, dVar, List.getElem?_cons_zero, List.getElem?_cons_succ, h, updD_same, updD_updD, true_and]
  refine ⟨(by decide : (0 : Nat) < 1000), (by decide : (1 : Nat) < 1000), (by decide : (2 : Nat) < 1000), (by decide : (3 : Nat) < 1000), (by decide : (4 : Nat) < 1000), (by decide : (5 : Nat) < 1000), (by decide : (6 : Nat) < 1000), (by decide : (7 : Nat) < 1000), ?_⟩
  exact frg_of q
theorem pure_Record_parts (ca : CA) (ds : List D) (G : DH) (R : DK) (EX : DX) (h : sd_Record_parts ca ds G R EX) : b_Record_parts ca (endsD (frg R) EX) (startD N_Record_parts ds) G := by
  obtain ⟨a, r, rfl, h, q⟩ := h
  show b_Record_parts ca (endsD (frg R) EX) [some (.ref a)] G
  unfold RecAt at h
  unfold b_Record_parts
  rw [← updD_id h] at q ⊢
  walk_at "hd"
  exact frg_of q
theorem pure_Record_grow (ca : CA) (ds : List D) (G : DH) (R : DK) (EX : DX) (h : sd_Record_grow ca ds G R EX) : b_Record_grow ca (endsD (frg R) EX) (startD N_Record_grow ds) G := by
  obtain ⟨a, r, rfl, h, q⟩ := h
  show b_Record_grow ca (endsD (frg R) EX) [some (.ref a)] G
  unfold RecAt at h
  unfold b_Record_grow
  unfold putR at q
  rw [← updD_id h] at q ⊢
  rw [updD_updD] at q
  walk_at "hd"
  exact frg_of q
theorem pure_Record_move (ca : CA) (ds : List D) (G : DH) (R : DK) (EX : DX) (h : sd_Record_move ca ds G R EX) : b_Record_move ca (endsD (frg R) EX) (startD N_Record_move ds) G := by
  obtain ⟨a, r, b, rfl, h, q⟩ := h
  show b_Record_move ca (endsD (frg R) EX) [some (.ref a), some (.int b)] G
  unfold RecAt at h
  unfold b_Record_move
  unfold putR at q
  rw [← updD_id h] at q ⊢
  rw [updD_updD] at q
  walk_at "hd"
  refine ⟨a, _, rfl, updD_same, ?_⟩
  unfold putR
  rw [updD_updD]
  exact frg_of q
theorem pure_Record_move_one (ca : CA) (ds : List D) (G : DH) (R : DK) (EX : DX) (h : sd_Record_move_one ca ds G R EX) : b_Record_move_one ca (endsD (frg R) EX) (startD N_Record_move_one ds) G := by
  obtain ⟨a, r, k, b, rfl, h, ok, q⟩ := h
  show b_Record_move_one ca (endsD (frg R) EX) [some (.ref a), some (.int k), some (oD b)] G
  unfold RecAt at h
  unfold b_Record_move_one
  unfold putR at q
  rw [← updD_id h] at q ⊢
  rw [updD_updD] at q
  walk_at "hd"
  refine ⟨r.ones, k, b, rfl, by have := ok.ones; omega, ?_⟩
  walk_at "hd"
  refine ⟨a, _, rfl, updD_same, ?_⟩
  unfold putR
  rw [updD_updD]
  exact frg_of q
theorem pure_Record_hands (ca : CA) (ds : List D) (G : DH) (R : DK) (EX : DX) (h : sd_Record_hands ca ds G R EX) : b_Record_hands ca (endsD (frg R) EX) (startD N_Record_hands ds) G := by
  obtain ⟨a, r, rfl, h, ok, q⟩ := h
  show b_Record_hands ca (endsD (frg R) EX) [some (.ref a), none, none] G
  unfold RecAt at h
  unfold b_Record_hands
  rw [← updD_id h] at q ⊢
  walk_at "hd"
  simp only [dLcF, iSq]
  walk_at "hd"
  refine goLcF_map (f := guestD) (fun g : Guest => some (.int g.1)) trivial (fun g C1 C2 hg => ?_) r.guests [] (by have := ok.guests; simp; exact sz_small (by omega)) ?_
  · unfold guestD
    walk_at "hd"
    exact hg
  · rw [List.filterMap_eq_map', List.nil_append]
    unfold Rec.hands at q
    rw [List.map_map] at q
    exact frg_of q
theorem pure_Record_rows (ca : CA) (ds : List D) (G : DH) (R : DK) (EX : DX) (h : sd_Record_rows ca ds G R EX) : b_Record_rows ca (endsD (frg R) EX) (startD N_Record_rows ds) G := by
  obtain ⟨a, r, rfl, h, ok, q⟩ := h
  show b_Record_rows ca (endsD (frg R) EX) [some (.ref a)] G
  unfold RecAt at h
  unfold b_Record_rows
  rw [← updD_id h] at q ⊢
  walk_at "hd"
  have m0 := ok.plan.m0
  have m1 := ok.plan.m1
  exact ⟨r.plan, r.ones, rfl, by omega, by omega, frg_of q⟩
theorem pure_Record_drop (ca : CA) (ds : List D) (G : DH) (R : DK) (EX : DX) (h : sd_Record_drop ca ds G R EX) : b_Record_drop ca (endsD (frg R) EX) (startD N_Record_drop ds) G := by
  obtain ⟨a, r, hd, rfl, h, ok, q⟩ := h
  show b_Record_drop ca (endsD (frg R) EX) [some (.ref a), some (.int hd), none] G
  unfold RecAt at h
  unfold b_Record_drop
  unfold putR at q
  rw [← updD_id h] at q ⊢
  rw [updD_updD] at q
  walk_at "hd"
  simp only [dLcF, iSq]
  walk_at "hd"
  refine goLcF_map (f := guestD) (fun g : Guest => if (!decide (g.1 = hd)) = true then some (guestD g) else none) trivial (fun g C1 C2 hg => ?_) r.guests [] (by have := ok.guests; simp; exact sz_small (by omega)) ?_
  · unfold guestD at hg ⊢
    walk_at "hd"
    cases hb : (!decide (g.1 = hd)) <;> rw [hb] at hg <;> exact hg
  · rw [fm_filter, List.nil_append]
    walk_at "hd"
    try simp only [dLcF, iSq]
    walk_at "hd"
    refine goLcF_map (f := hsayD) (fun g : HSay => if (!decide (g.1 = hd)) = true then some (hsayD g) else none) trivial (fun g C1 C2 hg => ?_) r.says [] (by have := ok.says; simp; exact sz_small (by omega)) ?_
    · unfold hsayD at hg ⊢
      walk_at "hd"
      cases hb : (!decide (g.1 = hd)) <;> rw [hb] at hg <;> exact hg
    · rw [fm_filter, List.nil_append]
      simp only [dTupCP]
      walk_at "hd"
      refine ⟨a, _, rfl, updD_same, ?_⟩
      unfold putR
      rw [updD_updD]
      exact frg_of q
end Hd
/-! ### hands: what is said, by its readings -/
namespace Hd
open PySem PySem.Spec PyProof.Rows L2 Cc Pl
open PySem.W (EachIs AllAlike Sortable dataLe)
local macro_rules | `(tactic| walk_at "rd") => `(tactic| try simp only [sSeq, sIf, sAsg, sRet, sRetN, sDrop, sNext, gN, gT, gsCons, gsNil, gsNames, wipeD, D.tl, dTest, dAnd, dOr, dNot, dAndV, dOrV, dNotV, dIf, dOp, dUn, dVar, dC, dCons, dNil, dCB, dCall, dTup, dLst, dLstF, dYes, blD_bl, dEq_int, dNe_int, dEq_bl, dNe_bl, dEq_str, dChain, vadd_int, vadd_rol, vadd_tup, vmul_int, vsub_int, vlt_int, vle_int, vgt_int, vge_int, vmax_int, vmin_int, vneg_int, vlen_tup, vlen_rol, vtup_rol, vtup_tup, vlist_rol, vlist_tup, vix_tup, vix_rol, vat_0, vat_1, vat_2, vat_3, vat_4, vat_5, vat_6, vsl_tup, vsl_rol, visi_non_bool, visi_non_int, visi_non_str, visi_non_tuple, visi_non_list, visi_bl_bool, visi_bl_int, visi_bl_str, visi_bl_tuple, visi_bl_list, visi_int_bool, visi_int_int, visi_int_str, visi_int_tuple, visi_int_list, visi_str_bool, visi_str_int, visi_str_str, visi_str_tuple, visi_str_list, visi_tup_bool, visi_tup_int, visi_tup_str, visi_tup_tuple, visi_tup_list, visi_key_bool, visi_key_int, visi_key_str, visi_key_tuple, visi_key_list, visi_rol_bool, visi_rol_int, visi_rol_str, visi_rol_tuple, visi_rol_list, dBM, vtyL, vapp, vlen_upd, vix_upd, vsz_0, vsz_1, vsz_2, vsz_3, vsz_4, vsz_5, vsz_6, vsz_7, vsz_8, vsz_9, dIsN, dNotN, D.isN, List.getElem?_cons_zero, List.getElem?_cons_succ, List.set_cons_zero, List.set_cons_succ, List.length_cons, List.length_nil, decide_eq_true_eq, if_true, if_false, Bool.false_eq_true, ite_true, ite_false, true_and, and_true, Bool.not_true, Bool.not_false])
local macro_rules | `(tactic| walk_at "hd") => `(tactic| try simp only [sSeq, sIf, sAsg, sRet, sRetN, sDrop, sNext, gN, gT, gsCons, gsNil, gsNames, wipeD, D.tl, dTest, dAnd, dOr, dNot, dAndV, dOrV, dNotV, dIf, dOp, dUn, dVar, dC, dCons, dNil, dCB, dCall, dTup, dLst, dLstF, dYes, blD_bl, dEq_int, dNe_int, dEq_bl, dNe_bl, dEq_str, dChain, vadd_int, vadd_rol, vadd_tup, vmul_int, vsub_int, vlt_int, vle_int, vgt_int, vge_int, vmax_int, vmin_int, vneg_int, vlen_tup, vlen_rol, vtup_rol, vtup_tup, vlist_rol, vlist_tup, vix_tup, vix_rol, vat_0, vat_1, vat_2, vat_3, vat_4, vat_5, vat_6, vsl_tup, vsl_rol, visi_non_bool, visi_non_int, visi_non_str, visi_non_tuple, visi_non_list, visi_bl_bool, visi_bl_int, visi_bl_str, visi_bl_tuple, visi_bl_list, visi_int_bool, visi_int_int, visi_int_str, visi_int_tuple, visi_int_list, visi_str_bool, visi_str_int, visi_str_str, visi_str_tuple, visi_str_list, visi_tup_bool, visi_tup_int, visi_tup_str, visi_tup_tuple, visi_tup_list, visi_key_bool, visi_key_int, visi_key_str, visi_key_tuple, visi_key_list, visi_rol_bool, visi_rol_int, visi_rol_str, visi_rol_tuple, visi_rol_list, dBM, vtyL, vapp, vlen_upd, vix_upd, vsz_0, vsz_1, vsz_2, vsz_3, vsz_4, vsz_5, vsz_6, vsz_7, vsz_8, vsz_9, dIsN, dNotN, D.isN, List.getElem?_cons_zero, List.getElem?_cons_succ, List.set_cons_zero, List.set_cons_succ, List.length_cons, List.length_nil, decide_eq_true_eq, if_true, if_false, Bool.false_eq_true, ite_true, ite_false, true_and, and_true, Bool.not_true, Bool.not_false, dFld, sFldD, gF, dMeth, dMake, dTupP, dSl, oSome, oNo, updD_same, updD_updD, lk_stamp, lk_version, lk_over, lk_plan, lk_note, lk_ones, lk_guests, lk_says, lk_grow, lk_move, lk_move_one, lk_add, lk_drop, lk_hear, lk_rows, lk_told, lk_hands, lk_say_of, lk_parts, pf_stamp, pf_version, pf_over, pf_plan, pf_note, pf_ones, pf_ones0, pf_guests, pf_says, fs_len, lt8, vsl_plan, pf_plan2, vix_plan1, vix_plan3])
theorem putD_new {κ : Type} [DecidableEq κ] {kvs : List (κ × D)} {k : κ} {v : D} (h : k ∉ kvs.map (·.1)) : putD kvs k v = kvs ++ [(k, v)] := by
  unfold putD
  rw [if_neg]
  intro e
  obtain ⟨p, hp, hk⟩ := List.any_eq_true.mp e
  exact h (List.mem_map.mpr ⟨p, hp, by simpa using hk⟩)
theorem mergeD_app : ∀ (more kvs : List (Key × D)), ((kvs ++ more).map (·.1)).Nodup → mergeD kvs more = kvs ++ more
  | [], kvs, _ => by rw [List.append_nil]; rfl
  | p :: more, kvs, h => by
    have h2 : kvs ++ p :: more = (kvs ++ [p]) ++ more := by simp
    have hn : p.1 ∉ kvs.map (·.1) := fun z => by
      rw [List.map_append, List.nodup_append] at h
      exact h.2.2 _ z _ (by simp) rfl
    show mergeD (putD kvs p.1 p.2) more = _
    rw [putD_new hn, h2]
    exact mergeD_app more _ (by rw [← h2]; exact h)
theorem look_map {α : Type} {f : α → D} (k : Int) : ∀ l : List (Int × α), lookK (l.map fun p => ((Sum.inl p.1 : Key), f p.2)) (Sum.inl k) = (l.find? fun p => decide (p.1 = k)).map fun p => f p.2
  | [] => rfl
  | p :: l => by
    have ih := look_map (f := f) k l
    unfold lookK at ih ⊢
    rw [List.map_cons, List.find?_cons, List.find?_cons]
    by_cases h : p.1 = k
    · subst h
      simp
    · have : ¬ (Sum.inl p.1 : Key) = Sum.inl k := fun z => h (Sum.inl.inj z)
      rw [decide_eq_false this, decide_eq_false h]
      exact ih
theorem nd_keys {α : Type} {f : α → D} {l : List (Int × α)} (h : (l.map (·.1)).Nodup) : ((l.map fun p => ((Sum.inl p.1 : Key), f p.2)).map (·.1)).Nodup := by
  rw [List.map_map]
  have : ((fun x : Key × D => x.1) ∘ fun p : Int × α => ((Sum.inl p.1 : Key), f p.2)) = Sum.inl ∘ fun p : Int × α => p.1 := rfl
  rw [this, ← List.map_map]
  exact List.Pairwise.map _ (fun a b hab z => hab (Sum.inl.inj z)) h
/-- dict(pairs).get(k, z) -/
theorem dict_get {α : Type} {f : α → D} {l : List (Int × α)} {g : Int × α → D} {G : DH} {R : DK} {k : Int} {z : D} (hg : ∀ p ∈ l, keyed (g p) = some (Sum.inl p.1, f p.2)) (h : (l.map (·.1)).Nodup)
    (q : R (((l.find? fun p => decide (p.1 = k)).map fun p => f p.2).getD z) G) : dDictF [.ptp (l.map g)] G fun x G1 => isDict G1 x ∧ (match getOf G1 x (.int k) with
  | some r => R (r.getD z) G1
  | none => False) := by
  refine ⟨l.map g, l.map fun p => (Sum.inl p.1, f p.2), rfl, ?_, trivial, ?_⟩
  · rw [List.map_map, List.map_map]
    exact List.map_congr_left fun p hp => hg p hp
  · have e := mergeD_app (l.map fun p => ((Sum.inl p.1 : Key), f p.2)) [] (by rw [List.nil_append]; exact nd_keys h)
    rw [e, List.nil_append]
    simp only [getOf, D.ky, Option.map_some]
    rw [look_map]
    exact q
theorem pure_Record_say_of (ca : CA) (ds : List D) (G : DH) (R : DK) (EX : DX) (h : sd_Record_say_of ca ds G R EX) : b_Record_say_of ca (endsD (frg R) EX) (startD N_Record_say_of ds) G := by
  obtain ⟨a, r, hd, rfl, h, ok, q⟩ := h
  show b_Record_say_of ca (endsD (frg R) EX) [some (.ref a), some (.int hd)] G
  unfold RecAt at h
  unfold b_Record_say_of
  rw [← updD_id h] at q ⊢
  walk_at "hd"
  simp only [dGet2]
  walk_at "hd"
  refine dict_get (l := r.says) (f := Say.d) (fun p _ => rfl) ok.nd ?_
  have e : ((r.says.find? fun p => decide (p.1 = hd)).map fun p => p.2.d).getD (.tup [.int 0, .non, .tup [], .non]) = (r.sayOf hd).d := by
    unfold Rec.sayOf
    cases r.says.find? fun p => decide (p.1 = hd) with
    | none => rfl
    | some p => rfl
  rw [e]
  exact frg_of q
theorem pure_oftens_of (ds : List D) (G : DH) (R : DK) (EX : DX) (h : sd_oftens_of ds G R EX) : b_oftens_of (endsD (frg R) EX) (startD N_oftens_of ds) G := by
  obtain ⟨os, rfl, hl, q⟩ := h
  show b_oftens_of (endsD (frg R) EX) [some (onesD os), none, none, none] G
  unfold b_oftens_of onesD
  walk_at "hd"
  simp only [dLcF, iSq]
  walk_at "hd"
  refine goLcF_map (f := One.d) (fun o : One => some (oft (o.k, o.n))) trivial (fun o C1 C2 ho => ?_) os [] (by simp; exact sz_small (by omega)) ?_
  · unfold One.d
    walk_at "hd"
    exact ho
  · rw [List.filterMap_eq_map', List.nil_append]
    simp only [dTupCP]
    exact frg_of q
theorem pure_words_of (ds : List D) (G : DH) (R : DK) (EX : DX) (h : sd_words_of ds G R EX) : b_words_of (endsD (frg R) EX) (startD N_words_of ds) G := by
  obtain ⟨s, v, os, m, rfl, ok, m0, m1, q⟩ := h
  show b_words_of (endsD (frg R) EX) [some s.d, some (.int v), some (onesD os), some (.int m), none] G
  unfold b_words_of
  walk_at "hd"
  simp only [dLcF, iRange1]
  walk_at "hd"
  refine ⟨⟨by omega, by omega⟩, ?_⟩
  rw [rangeD_map]
  refine goLcF_map (f := fun i : Nat => D.int (i : Int)) (fun k : Nat => some (.str (wordOf s v os k))) trivial (fun k C1 C2 hk => ?_) (List.range m.toNat) [] (by rw [List.length_range, List.length_nil, Nat.zero_add]; exact sz_small (by omega)) ?_
  · walk_at "hd"
    exact ⟨s, v, os, k, rfl, ok, hk⟩
  · rw [List.filterMap_eq_map', List.nil_append]
    unfold wordsOf at q
    rw [List.map_map] at q
    exact frg_of q
def soneP (q : SOne) : PyData := .tuple [.int q.1, .int q.2.1, .int q.2.2.1]
theorem eqv3 {a b c a' b' c' : Int} : PyData.eqv (.tuple [.int a, .int b, .int c]) (.tuple [.int a', .int b', .int c']) = decide ((a, b, c) = (a', b', c')) := by
  simp only [PyData.eqv, PyData.eqvAll, Bool.and_true, Prod.mk.injEq]
  rw [Bool.eq_iff_iff]
  simp
theorem pure_word_of (ds : List D) (G : DH) (R : DK) (EX : DX) (h : sd_word_of ds G R EX) : b_word_of (endsD (frg R) EX) (startD N_word_of ds) G := by
  obtain ⟨s, v, os, k, rfl, ok, q⟩ := h
  have q := frg_of q
  show b_word_of (endsD (frg R) EX) [some s.d, some (.int v), some (onesD os), some (.int k), none, none, none, none, none] G
  unfold b_word_of Say.d
  walk_at "hd"
  unfold wordOf at q
  cases hp : s.pass with
  | some p =>
    rw [hp] at q
    simp only [oD]
    walk_at "hd"
    exact q
  | none =>
    rw [hp] at q
    simp only [oD]
    walk_at "hd"
    refine ⟨os, k, rfl, ?_⟩
    walk_at "hd"
    simp only [sFor, iSq]
    walk_at "hd"
    refine goFor_map (f := soneD) (fun xs δ G' => (∃ o5 o6 o7 o8 : Option D, δ = [some (.tup [.int s.n, wholeD s.whole, .tup (s.ones.map soneD), oD s.pass]), some (.int v), some (onesD os), some (.int k), some (.int (chg os k).1), o5, o6, o7, o8]) ∧ G' = G ∧ s.ones.find? (fun q => decide ((q.1, q.2.1, q.2.2.1) = (k, v, (chg os k).1))) = xs.find? (fun q => decide ((q.1, q.2.1, q.2.2.1) = (k, v, (chg os k).1))))
      (fun _ _ _ _ => trivial) (fun δ G' ⟨⟨o5, o6, o7, o8, e⟩, eG, ef⟩ => ?_) (fun x xs δ G' N ⟨⟨o5, o6, o7, o8, e⟩, eG, ef⟩ hN => ?_) _ _ _ ⟨⟨_, _, _, _, by rw [hp]; rfl⟩, rfl, rfl⟩
    · subst e eG
      rw [ef] at q
      simp only [List.find?_nil] at q
      walk_at "hd"
      cases hw : s.whole with
      | none =>
        rw [hw] at q
        simp only [wholeD]
        walk_at "hd"
        exact q
      | some t =>
        obtain ⟨v', of, w⟩ := t
        rw [hw] at q
        obtain ⟨hnd, hle⟩ := ok.oft _ _ _ hw
        simp only [wholeD]
        walk_at "hd"
        dsimp only at q
        by_cases h1 : v' = v
        · rw [if_pos h1]
          simp only [dGet2]
          walk_at "hd"
          refine dict_get (R := fun x G1 => dEq x (.int (chg os k).1) G1 (blD fun b G1 => if b = true then frg R (.str w) G1 else frg R (.str "asked") G1)) (l := of) (f := D.int) (g := oft) (fun p _ => rfl) hnd ?_
          have e : (((of.find? fun p => decide (p.1 = k)).map fun p => D.int p.2).getD (.int 0)) = .int (((of.find? fun p => decide (p.1 = k)).map (·.2)).getD 0) := by
            cases of.find? fun p => decide (p.1 = k) <;> rfl
          rw [e]
          walk_at "hd"
          by_cases h2 : (((of.find? fun p => decide (p.1 = k)).map (·.2)).getD 0) = (chg os k).1
          · rw [if_pos h2]
            rw [if_pos ⟨h1, h2⟩] at q
            walk_at "hd"
            exact q
          · rw [if_neg h2]
            rw [if_neg fun z => h2 z.2] at q
            walk_at "hd"
            exact q
        · rw [if_neg h1]
          rw [if_neg fun z => h1 z.1] at q
          walk_at "hd"
          exact q
    · subst e eG
      unfold soneD
      walk_at "hd"
      refine ⟨.tuple [.int x.1, .int x.2.1, .int x.2.2.1], .tuple [.int k, .int v, .int (chg os k).1], .tup rfl (.cons (.int _) (.cons (.int _) (.cons (.int _) .nil))), .tup rfl (.cons (.int _) (.cons (.int _) (.cons (.int _) .nil))), by simp [SeqAt.shaped, PyData.canLay0, PyData.canLayAll0, PyData.depth, PyData.depthAll], by simp [SeqAt.shaped, PyData.canLay0, PyData.canLayAll0, PyData.depth, PyData.depthAll], ?_⟩
      rw [eqv3]
      rw [List.find?_cons] at ef
      cases hb : decide ((x.1, x.2.1, x.2.2.1) = (k, v, (chg os k).1)) with
      | true =>
        rw [hb] at ef
        rw [ef] at q
        walk_at "hd"
        exact q
      | false =>
        rw [hb] at ef
        walk_at "hd"
        exact hN _ _ ⟨⟨_, _, _, _, rfl⟩, rfl, ef⟩
end Hd
/-! ### hands: hearing, telling -/
namespace Hd
open PySem PySem.Spec PyProof.Rows L2 Cc Pl
open PySem.W (EachIs AllAlike Sortable dataLe)
local macro_rules | `(tactic| walk_at "rd") => `(tactic| try simp only [sSeq, sIf, sAsg, sRet, sRetN, sDrop, sNext, gN, gT, gsCons, gsNil, gsNames, wipeD, D.tl, dTest, dAnd, dOr, dNot, dAndV, dOrV, dNotV, dIf, dOp, dUn, dVar, dC, dCons, dNil, dCB, dCall, dTup, dLst, dLstF, dYes, blD_bl, dEq_int, dNe_int, dEq_bl, dNe_bl, dEq_str, dChain, vadd_int, vadd_rol, vadd_tup, vmul_int, vsub_int, vlt_int, vle_int, vgt_int, vge_int, vmax_int, vmin_int, vneg_int, vlen_tup, vlen_rol, vtup_rol, vtup_tup, vlist_rol, vlist_tup, vix_tup, vix_rol, vat_0, vat_1, vat_2, vat_3, vat_4, vat_5, vat_6, vsl_tup, vsl_rol, visi_non_bool, visi_non_int, visi_non_str, visi_non_tuple, visi_non_list, visi_bl_bool, visi_bl_int, visi_bl_str, visi_bl_tuple, visi_bl_list, visi_int_bool, visi_int_int, visi_int_str, visi_int_tuple, visi_int_list, visi_str_bool, visi_str_int, visi_str_str, visi_str_tuple, visi_str_list, visi_tup_bool, visi_tup_int, visi_tup_str, visi_tup_tuple, visi_tup_list, visi_key_bool, visi_key_int, visi_key_str, visi_key_tuple, visi_key_list, visi_rol_bool, visi_rol_int, visi_rol_str, visi_rol_tuple, visi_rol_list, dBM, vtyL, vapp, vlen_upd, vix_upd, vsz_0, vsz_1, vsz_2, vsz_3, vsz_4, vsz_5, vsz_6, vsz_7, vsz_8, vsz_9, dIsN, dNotN, D.isN, List.getElem?_cons_zero, List.getElem?_cons_succ, List.set_cons_zero, List.set_cons_succ, List.length_cons, List.length_nil, decide_eq_true_eq, if_true, if_false, Bool.false_eq_true, ite_true, ite_false, true_and, and_true, Bool.not_true, Bool.not_false])
local macro_rules | `(tactic| walk_at "hd") => `(tactic| try simp only [sSeq, sIf, sAsg, sRet, sRetN, sDrop, sNext, gN, gT, gsCons, gsNil, gsNames, wipeD, D.tl, dTest, dAnd, dOr, dNot, dAndV, dOrV, dNotV, dIf, dOp, dUn, dVar, dC, dCons, dNil, dCB, dCall, dTup, dLst, dLstF, dYes, blD_bl, dEq_int, dNe_int, dEq_bl, dNe_bl, dEq_str, dChain, vadd_int, vadd_rol, vadd_tup, vmul_int, vsub_int, vlt_int, vle_int, vgt_int, vge_int, vmax_int, vmin_int, vneg_int, vlen_tup, vlen_rol, vtup_rol, vtup_tup, vlist_rol, vlist_tup, vix_tup, vix_rol, vat_0, vat_1, vat_2, vat_3, vat_4, vat_5, vat_6, vsl_tup, vsl_rol, visi_non_bool, visi_non_int, visi_non_str, visi_non_tuple, visi_non_list, visi_bl_bool, visi_bl_int, visi_bl_str, visi_bl_tuple, visi_bl_list, visi_int_bool, visi_int_int, visi_int_str, visi_int_tuple, visi_int_list, visi_str_bool, visi_str_int, visi_str_str, visi_str_tuple, visi_str_list, visi_tup_bool, visi_tup_int, visi_tup_str, visi_tup_tuple, visi_tup_list, visi_key_bool, visi_key_int, visi_key_str, visi_key_tuple, visi_key_list, visi_rol_bool, visi_rol_int, visi_rol_str, visi_rol_tuple, visi_rol_list, dBM, vtyL, vapp, vlen_upd, vix_upd, vsz_0, vsz_1, vsz_2, vsz_3, vsz_4, vsz_5, vsz_6, vsz_7, vsz_8, vsz_9, dIsN, dNotN, D.isN, List.getElem?_cons_zero, List.getElem?_cons_succ, List.set_cons_zero, List.set_cons_succ, List.length_cons, List.length_nil, decide_eq_true_eq, if_true, if_false, Bool.false_eq_true, ite_true, ite_false, true_and, and_true, Bool.not_true, Bool.not_false, dFld, sFldD, gF, dMeth, dMake, dTupP, dSl, oSome, oNo, updD_same, updD_updD, lk_stamp, lk_version, lk_over, lk_plan, lk_note, lk_ones, lk_guests, lk_says, lk_grow, lk_move, lk_move_one, lk_add, lk_drop, lk_hear, lk_rows, lk_told, lk_hands, lk_say_of, lk_parts, pf_stamp, pf_version, pf_over, pf_plan, pf_note, pf_ones, pf_ones0, pf_guests, pf_says, fs_len, lt8, vsl_plan, pf_plan2, vix_plan1, vix_plan3])
theorem key_eq {α : Type} {f : Int × α → D} (hf : ∀ p, kI 0 (f p) = some p.1) (l : List (Int × α)) : (l.map f).map (kI 0) = (l.map (·.1)).map some := by
  rw [List.map_map, List.map_map]
  exact List.map_congr_left fun p _ => hf p
theorem sort_eq {α : Type} {f : Int × α → D} (l : List (Int × α)) : sortG PyData.int (l.map f) (l.map (·.1)) = (byH l).map f := sortG_map l
theorem pure_Record_hear (ca : CA) (ds : List D) (G : DH) (R : DK) (EX : DX) (h : sd_Record_hear ca ds G R EX) : b_Record_hear ca (endsD (frg R) EX) (startD N_Record_hear ds) G := by
  obtain ⟨a, r, hd, s, rfl, h, hl, q⟩ := h
  show b_Record_hear ca (endsD (frg R) EX) [some (.ref a), some (.int hd), some s.d, none, none] G
  unfold RecAt at h
  unfold b_Record_hear
  unfold putR at q
  rw [← updD_id h] at q ⊢
  rw [updD_updD] at q
  walk_at "hd"
  simp only [dLcF, iSq]
  walk_at "hd"
  refine goLcF_map (f := hsayD) (fun g : HSay => if (!decide (g.1 = hd)) = true then some (hsayD g) else none) trivial (fun g C1 C2 hg => ?_) r.says [] (by simp; exact sz_small (by omega)) ?_
  · unfold hsayD at hg ⊢
    walk_at "hd"
    cases hb : (!decide (g.1 = hd)) <;> rw [hb] at hg <;> exact hg
  · rw [fm_filter, List.nil_append]
    walk_at "hd"
    have hf := List.length_filter_le (fun x : HSay => !decide (x.1 = hd)) r.says
    have e2 : ((r.says.filter fun x : HSay => !decide (x.1 = hd)).map hsayD ++ [D.tup [.int hd, s.d]]) = ((r.says.filter fun x : HSay => !decide (x.1 = hd)) ++ [((hd, s) : HSay)]).map hsayD := by
      rw [List.map_append]; rfl
    simp only [dSortGF]
    walk_at "hd"
    refine ⟨by rw [List.length_map]; exact sz_small (by omega), ?_⟩
    rw [e2]
    have hlen : ((r.says.filter fun x : HSay => !decide (x.1 = hd)) ++ [((hd, s) : HSay)]).length ≤ 100000 := by rw [List.length_append, List.length_singleton]; omega
    refine ⟨_, ((r.says.filter fun x : HSay => !decide (x.1 = hd)) ++ [((hd, s) : HSay)]).map (·.1), rfl, key_eq (fun p => rfl) _, by rw [List.length_map]; exact sz_small hlen, ?_⟩
    rw [sort_eq]
    simp only [dTupCP]
    walk_at "hd"
    refine ⟨a, _, rfl, updD_same, ?_⟩
    unfold putR
    rw [updD_updD]
    exact frg_of q
theorem pure_Record_add (ca : CA) (ds : List D) (G : DH) (R : DK) (EX : DX) (h : sd_Record_add ca ds G R EX) : b_Record_add ca (endsD (frg R) EX) (startD N_Record_add ds) G := by
  obtain ⟨a, r, hd, b, s, rfl, h, hg, hl, q⟩ := h
  show b_Record_add ca (endsD (frg R) EX) [some (.ref a), some (.int hd), some (oD b), some s.d] G
  unfold RecAt at h
  unfold b_Record_add
  unfold putR at q
  rw [← updD_id h] at q ⊢
  rw [updD_updD] at q
  walk_at "hd"
  simp only [dSortGF]
  walk_at "hd"
  have e2 : (r.guests.map guestD ++ [D.tup [.int hd, oD b]]) = (r.guests ++ [((hd, b) : Guest)]).map guestD := by
    rw [List.map_append]; rfl
  refine ⟨by rw [List.length_map]; exact sz_small (by omega), ?_⟩
  rw [e2]
  have hlen : (r.guests ++ [((hd, b) : Guest)]).length ≤ 100000 := by rw [List.length_append, List.length_singleton]; omega
  refine ⟨_, (r.guests ++ [((hd, b) : Guest)]).map (·.1), rfl, key_eq (fun p => rfl) _, by rw [List.length_map]; exact sz_small hlen, ?_⟩
  rw [sort_eq]
  walk_at "hd"
  refine ⟨a, _, hd, s, rfl, updD_same, hl, ?_⟩
  unfold putR
  rw [updD_updD]
  exact frg_of q
theorem sort_ints {l : List Int} {G : DH} {R : DK} (hl : l.length ≤ 100000) (q : R (.rol ((sortI l).map .int)) G) : dSortedF [.tup (l.map .int)] G R := by
  refine ⟨l.map .int, l.map PyData.int, rfl, rdd_map fun x _ => .int x, ?_, ?_, fun t ht => ?_, by rw [List.length_map]; exact sz_small hl, ?_⟩
  · exact AllAlike.of fun x y => encI_alike x y
  · exact Sortable.others fun b => ⟨(fun z => by cases z), (fun xs z => by cases z)⟩
  · obtain ⟨x, _, rfl⟩ := List.mem_map.mp ht
    simp [PyData.depth]
  · rw [sortD_map]
    have e : l.mergeSort (dataLe false PyData.int) = sortI l := by
      unfold sortI
      rw [PySem.W.dataLe_int]
    rw [e]
    exact q
theorem pure_first_record (ca : CA) (ds : List D) (G : DH) (R : DK) (EX : DX) (h : sd_first_record ca ds G R EX) : b_first_record ca (endsD (frg R) EX) (startD N_first_record ds) G := by
  obtain ⟨p, gs, rfl, hl, q⟩ := h
  show b_first_record ca (endsD (frg R) EX) [some p.d, some (.tup (gs.map .int)), none] G
  unfold b_first_record
  walk_at "hd"
  simp only [dLcF, iSq]
  walk_at "hd"
  refine sort_ints (by omega) ?_
  have hs : (sortI gs).length = gs.length := List.length_mergeSort _
  refine goLcF_map (f := D.int) (fun g : Int => some (guestD (g, none))) trivial (fun g C1 C2 hg => ?_) (sortI gs) [] (by simp; exact sz_small (by omega)) ?_
  · walk_at "hd"
    exact hg
  · rw [List.filterMap_eq_map', List.nil_append]
    walk_at "hd"
    intro x hx
    refine ⟨x, first p gs, ?_, updD_same, ?_⟩
    · unfold Rec.d Rec.ds first
      rw [List.map_map]
      rfl
    · unfold putR
      rw [updD_updD]
      exact frg_of (q x hx)
theorem veq_oD {i : Int} {o : Option Int} {G : DH} {R : DK} (q : R (.bl (decide (some i = o))) G) : dEq (.int i) (oD o) G R := by
  cases o with
  | none => exact ⟨.int i, .none, .int _, .non, by simp [SeqAt.shaped, PyData.canLay0, PyData.depth], by simp [SeqAt.shaped, PyData.canLay0, PyData.depth], q⟩
  | some j =>
    have e : decide (some i = some j) = decide (i = j) := by simp
    rw [e] at q
    exact q
theorem toldG_snoc {r : Rec} {me : Option Int} {mine : Say} (pre : List Guest) (g : Guest) : ((pre ++ [g]).map fun g : Guest => (⟨g.1, g.2, wordsOf (if some g.1 = me then mine else r.sayOf g.1) r.version r.ones r.plan.m⟩ : ToldG)).map ToldG.d =
    (pre.map fun g : Guest => (⟨g.1, g.2, wordsOf (if some g.1 = me then mine else r.sayOf g.1) r.version r.ones r.plan.m⟩ : ToldG)).map ToldG.d ++ [.tup [.int g.1, oD g.2, .rol ((wordsOf (if some g.1 = me then mine else r.sayOf g.1) r.version r.ones r.plan.m).map .str)]] := by
  rw [List.map_append, List.map_append]
  rfl
theorem sayOf_ok {r : Rec} (ok : r.Ok) (h : Int) : (r.sayOf h).Ok := by
  unfold Rec.sayOf
  cases hf : r.says.find? fun s => decide (s.1 = h) with
  | none => exact ⟨(fun v os w e => by cases e), Nat.zero_le _⟩
  | some s => exact ok.say s (List.mem_of_find?_eq_some hf)
def tellS (ca : CA) : DSt := (sDrop (dBM "list" mAppend (dVar 5) (dCons (dTup (dCons (dVar 6) (dCons (dVar 7) (dCons (dCall sd_words_of (dCons (dVar 8) (dCons (dFld ca.Record "version" (dVar 0)) (dCons (dFld ca.Record "ones" (dVar 0)) (dCons (dOp dIx (dFld ca.Record "plan" (dVar 0)) (dC (.int 3))) dNil))))) dNil)))) dNil)))
theorem told_eq (ca : CA) : b_Record_told ca = (sSeq (sAsg (dLst dNil) (gN 5))
  (sSeq (sFor (iSq (dFld ca.Record "guests" (dVar 0))) (gT 2 (gsCons (gN 6) (gsCons (gN 7) gsNil))) (sSeq (sAsg (dIf (dTest (dOp dEq (dVar 6) (dVar 3))) (dVar 4) (dMeth ca.Record "say_of" (sd_Record_say_of ca) (dVar 0) (dCons (dVar 6) dNil))) (gN 8))
  (tellS ca)))
  (sFz 5 (sRet (dTup (dCons (dVar 1) (dCons (dVar 2) (dCons (dFld ca.Record "version" (dVar 0)) (dCons (dFld ca.Record "note" (dVar 0)) (dCons (dOp dIx (dFld ca.Record "plan" (dVar 0)) (dC (.int 1))) (dCons (dMeth ca.Record "rows" (sd_Record_rows ca) (dVar 0) dNil) (dCons (dVar 5) dNil)))))))))))) := rfl
theorem pure_Record_told (ca : CA) (ds : List D) (G : DH) (R : DK) (EX : DX) (h : sd_Record_told ca ds G R EX) : b_Record_told ca (endsD (frg R) EX) (startD N_Record_told ds) G := by
  obtain ⟨a, r, host, number, me, mine, rfl, h, ok, okm, q⟩ := h
  show b_Record_told ca (endsD (frg R) EX) [some (.ref a), some (.int host), some (.int number), some (oD me), some mine.d, none, none, none, none] G
  unfold RecAt at h
  have m0 := ok.plan.m0
  have m1 := ok.plan.m1
  have hg := ok.guests
  rw [told_eq]
  walk_at "hd"
  intro p hp
  have nap : a ≠ p := fun z => by subst z; rw [h] at hp; cases hp
  have hga : ∀ c, updD G p c a = some (.ins ca.Record r.fs) := fun c => by rw [updD_ne nap]; exact h
  simp only [sFor, iSq]
  walk_at "hd"
  simp only [hga, true_and]
  walk_at "hd"
  refine goFor_map (f := guestD) (fun xs δ G' => (∃ o6 o7 o8 : Option D, δ = [some (.ref a), some (.int host), some (.int number), some (oD me), some mine.d, some (.ref p), o6, o7, o8]) ∧ ∃ pre, pre ++ xs = r.guests ∧ G' = updD G p (.lst ((pre.map fun g : Guest => (⟨g.1, g.2, wordsOf (if some g.1 = me then mine else r.sayOf g.1) r.version r.ones r.plan.m⟩ : ToldG)).map ToldG.d)))
    (fun _ _ _ _ => trivial) (fun δ G' ⟨⟨o6, o7, o8, e⟩, pre, ep, eG⟩ => ?_) (fun g xs δ G' N ⟨⟨o6, o7, o8, e⟩, pre, ep, eG⟩ hN => ?_) _ _ _ ⟨⟨_, _, _, rfl⟩, [], rfl, rfl⟩
  · subst e eG
    rw [List.append_nil] at ep
    subst ep
    dsimp only
    refine sFz_lst rfl updD_same ?_
    rw [delD_updD hp]
    rw [← updD_id h] at q ⊢
    walk_at "hd"
    refine ⟨a, r, rfl, updD_same, ok, ?_⟩
    exact frg_of q
  · subst e eG
    have hlen := congrArg List.length ep
    rw [List.length_append, List.length_cons] at hlen
    have nx : ∀ o8, N [some (.ref a), some (.int host), some (.int number), some (oD me), some mine.d, some (.ref p), some (.int g.1), some (oD g.2), o8] (updD G p (.lst (((pre ++ [g]).map fun g : Guest => (⟨g.1, g.2, wordsOf (if some g.1 = me then mine else r.sayOf g.1) r.version r.ones r.plan.m⟩ : ToldG)).map ToldG.d))) := fun o8 =>
      hN _ _ ⟨⟨_, _, _, rfl⟩, pre ++ [g], by rw [List.append_assoc]; exact ep, rfl⟩
    rw [toldG_snoc] at nx
    have tail : ∀ s : Say, s.Ok → s = (if some g.1 = me then mine else r.sayOf g.1) → tellS ca ⟨N, (endsD (frg R) EX).rt, (endsD (frg R) EX).bk, (endsD (frg R) EX).ct, (endsD (frg R) EX).ex⟩ [some (.ref a), some (.int host), some (.int number), some (oD me), some mine.d, some (.ref p), some (.int g.1), some (oD g.2), some s.d] (updD G p (.lst ((pre.map fun g : Guest => (⟨g.1, g.2, wordsOf (if some g.1 = me then mine else r.sayOf g.1) r.version r.ones r.plan.m⟩ : ToldG)).map ToldG.d))) := fun s oks es => by
      unfold tellS
      walk_at "hd"
      simp only [hga, true_and]
      walk_at "hd"
      refine ⟨s, r.version, r.ones, r.plan.m, rfl, oks, by omega, by omega, ?_⟩
      walk_at "hd"
      refine ⟨by rw [List.length_map, List.length_map, sizeLine_eq]; omega, ?_⟩
      subst es
      exact nx _
    unfold guestD
    walk_at "hd"
    refine veq_oD ?_
    by_cases hm : some g.1 = me
    · simp only [hm, decide_true, blD_bl, if_true]
      exact tail mine okm (by rw [if_pos hm])
    · simp only [hm, decide_false, blD_bl, Bool.false_eq_true, if_false, hga, lk_say_of, true_and]
      refine ⟨a, r, g.1, rfl, hga _, ok, ?_⟩
      exact tail _ (sayOf_ok ok _) (by rw [if_neg hm])
end Hd
/-! ### hands: models, promises of hands -/
namespace Hd
open PySem PySem.Spec PyProof.Rows L2 Cc Pl
open PySem.W (EachIs AllAlike Sortable dataLe)
def kvI {α : Type} (f : α → D) (l : List (Int × α)) : List (Key × D) := l.map fun p => (Sum.inl p.1, f p.2)
/-- a meeting of one's own, and where it stands -/
structure LH where
  h : Addr
  r : Addr
  hd : Addr
  kn : Addr
  rc : Rec
  heard : List HSay
  known : List (Int × Int)
def LH.fs (x : LH) : List (Str × D) := [("record", .ref x.r), ("heard", .ref x.hd), ("known", .ref x.kn)]
structure HostAt (ca : CA) (G : DH) (x : LH) : Prop where
  h : G x.h = some (.ins ca.Hosted x.fs)
  r : G x.r = some (.ins ca.Record x.rc.fs)
  hd : G x.hd = some (.dK (kvI Say.d x.heard))
  kn : G x.kn = some (.dK (kvI .int x.known))
  ne : x.hd ≠ x.kn
/-- one asked for by another -/
structure LA where
  q : Addr
  rq : Addr
  host : Int
  number : Int
  rc : Option Rec
  say : Say
  heard : Int
def LA.fs (x : LA) : List (Str × D) := [("record", match x.rc with
  | none => .non
  | some _ => .ref x.rq), ("say", x.say.d), ("heard", .int x.heard)]
structure AskAt (ca : CA) (G : DH) (x : LA) : Prop where
  q : G x.q = some (.ins ca.Asked x.fs)
  r : ∀ r, x.rc = some r → G x.rq = some (.ins ca.Record r.fs)
/-- a hand, and where it stands -/
structure LHand where
  a : Addr
  o : Addr
  c : Addr
  me : Int
  own : List LH
  calls : List LA
def LHand.fs (x : LHand) : List (Str × D) := [("me", .int x.me), ("own", .ref x.o), ("calls", .ref x.c)]
def callKey (x : LA) : List Key := [.inl x.host, .inl x.number]
/-- the hand's own three cells -/
structure Base (ca : CA) (G : DH) (x : LHand) : Prop where
  a : G x.a = some (.ins ca.Hand x.fs)
  o : G x.o = some (.lst (x.own.map fun y => .ref y.h))
  c : G x.c = some (.dT (x.calls.map fun y => (callKey y, .ref y.q)))
/-- .. with one of its own meetings -/
structure OwnAt (ca : CA) (G : DH) (x : LHand) (i : Nat) (y : LH) : Prop extends Base ca G x where
  i : x.own[i]? = some y
  y : HostAt ca G y
structure LH.Ok (x : LH) : Prop where
  rc : x.rc.Ok
  known : (x.known.map (·.1)).Nodup
  few : x.known.length < 64
def needs (x : LH) (hand : Int) : Bool := match x.known.find? fun p => decide (p.1 = hand) with
  | some p => decide (p.2 < x.rc.stamp)
  | none => false
def letterD (hand : Int) (body : List D) : D := .tup [.tup [.str "hand", .int hand], .tup body]
def tellD (me : Int) (i : Int) (r : Rec) (hand : Int) : D := letterD hand [.str "tell", .int me, .int i, r.d]
def lack (me : Int) (i : Int) (x : LH) : List D := ((sortI (x.known.map (·.1))).filter (needs x)).map (tellD me i x.rc)
/-! the promises -/
def isName (z : Str) : Bool := decide (z.length ≤ 10) && z.cps.toList.all fun c => decide (c ∈ ("abcdefghijklmnopqrstuvwxyz" : Str).cps.toList)
def sd_is_name : SpD := fun ds G R _ => ∃ z : Str, ds = [.str z] ∧ isName z = true ∧ R (.bl true) G
def sd_need_hand (ca : CA) : SpD := fun ds G R EX => ∃ n : Int, ds = [.int n] ∧ (0 ≤ n ∧ n ≤ 7 → R .non G) ∧ (¬ (0 ≤ n ∧ n ≤ 7) → EX (.ref ca.BadHand) none G)
def sd_Hosted__init_ (ca : CA) : SpD := fun ds G R _ => ∃ h r rc, ds = [.ref h, .ref r] ∧ G h = some (.ins ca.Hosted []) ∧ RecAt ca G r rc ∧ rc.Ok ∧ rc.hands.Nodup ∧
  ∀ hd kn, G hd = none → G kn = none → hd ≠ kn → R .non (updD (updD (updD G hd (.dK [])) kn (.dK (kvI .int (rc.hands.map fun x => (x, 0))))) h (.ins ca.Hosted [("record", .ref r), ("heard", .ref hd), ("known", .ref kn)]))
def sd_Hosted_take (ca : CA) : Nat → SpD
  | 0 => fun _ _ _ _ => False
  | _ + 1 => fun ds G R _ => ∃ (x : LH) (hand : Int), ds = [.ref x.h, .int hand] ∧ HostAt ca G x ∧ x.rc.Ok ∧ x.heard = [] ∧ 0 ≤ (x.rc.sayOf hand).n ∧ R .non G
def knows (known : List (Int × Int)) (hand : Int) : List (Int × Int) := if (known.any fun p => decide (p.1 = hand)) = true then known else known ++ [(hand, 0)]
def sd_Hosted_add (ca : CA) : Nat → SpD
  | 0 => fun _ _ _ _ => False
  | 1 => fun _ _ _ _ => False
  | _ + 2 => fun ds G R _ => ∃ (x : LH) (hand : Int) (b : Option Int), ds = [.ref x.h, .int hand, oD b] ∧ HostAt ca G x ∧ x.Ok ∧ (x.rc.add hand b nothing).Ok ∧ x.heard = [] ∧ hand ∉ x.rc.hands ∧ R .non (updD (putR ca G x.r (x.rc.add hand b nothing)) x.kn (.dK (kvI .int (knows x.known hand))))
def sd_Hand__init_ (ca : CA) : SpD := fun ds G R _ => ∃ (a : Addr) (n : Int), ds = [.ref a, .int n] ∧ 0 ≤ n ∧ n ≤ 7 ∧ G a = some (.ins ca.Hand []) ∧
  ∀ o c, G o = none → G c = none → o ≠ c → R .non (updD (updD (updD G o (.lst [])) c (.dT [])) a (.ins ca.Hand [("me", .int n), ("own", .ref o), ("calls", .ref c)]))
def sd_Hand_to (ca : CA) : SpD := fun ds G R _ => ∃ (a : Addr) (hand : Int) (body : List D), ds = [.ref a, .int hand, .tup body] ∧ R (letterD hand body) G
def sd_Hand_tell (ca : CA) : SpD := fun ds G R _ => ∃ (x : LHand) (i : Nat) (y : LH) (hand : Int), ds = [.ref x.a, .int i, .int hand] ∧ OwnAt ca G x i y ∧ R (tellD x.me i y.rc hand) G
def sd_Hand_lacking (ca : CA) : SpD := fun ds G R _ => ∃ (x : LHand) (i : Nat) (y : LH), ds = [.ref x.a, .int i] ∧ OwnAt ca G x i y ∧ y.Ok ∧ R (.rol (lack x.me i y)) G
def sd_Hand_hosted (ca : CA) : SpD := fun ds G R _ => ∃ (x : LHand) (i : Nat) (y : LH), ds = [.ref x.a, .int i] ∧ OwnAt ca G x i y ∧ y.rc.over = false ∧ x.own.length ≤ 1000 ∧ R (.ref y.h) G
def sd_Hand_need_guest (ca : CA) : SpD := fun ds G R EX => ∃ (x : LHand) (n : Int), ds = [.ref x.a, .int n] ∧ Base ca G x ∧ (0 ≤ n ∧ n ≤ 7 ∧ n ≠ x.me → R .non G) ∧ (¬ (0 ≤ n ∧ n ≤ 7 ∧ n ≠ x.me) → EX (.ref ca.BadHand) none G)
def sd_Hand_need_begin (ca : CA) : SpD := fun ds G R EX => ∃ (a : Addr) (n : Int), ds = [.ref a, .int n] ∧ (0 ≤ n ∧ n ≤ 999 → R .non G) ∧ (¬ (0 ≤ n ∧ n ≤ 999) → EX (.ref ca.BadWord) none G)
/-- a deed of the host that only writes at the record -/
def deed (ca : CA) (x : LHand) (i : Nat) (y : LH) (r : Rec) (G : DH) (R : DK) : Prop := OwnAt ca G x i y ∧ y.Ok ∧ y.rc.over = false ∧ x.own.length ≤ 1000 ∧ r.Ok ∧ R (.rol (lack x.me i { y with rc := r })) (putR ca G y.r r)
def sd_Hand_move (ca : CA) : SpD := fun ds G R _ => ∃ (x : LHand) (i : Nat) (y : LH) (b : Int), ds = [.ref x.a, .int i, .int b] ∧ 0 ≤ b ∧ b ≤ 999 ∧ deed ca x i y (y.rc.move b) G R
def sd_Hand_move_one (ca : CA) : SpD := fun ds G R _ => ∃ (x : LHand) (i : Nat) (y : LH) (k : Int) (b : Option Int), ds = [.ref x.a, .int i, .int k, oD b] ∧ (∀ n, b = some n → 0 ≤ n ∧ n ≤ 999) ∧ 0 ≤ k ∧ k < y.rc.plan.m ∧ deed ca x i y (y.rc.moveOne k b) G R
def sd_Hand_rename (ca : CA) : SpD := fun ds G R _ => ∃ (x : LHand) (i : Nat) (y : LH) (z : Str), ds = [.ref x.a, .int i, .str z] ∧ isName z = true ∧ deed ca x i y (Rec.grow { y.rc with note := z }) G R
def sd_Hand_call_off (ca : CA) : SpD := fun ds G R _ => ∃ (x : LHand) (i : Nat) (y : LH), ds = [.ref x.a, .int i] ∧ deed ca x i y (Rec.grow { y.rc with over := true }) G R
def sd_Hand_uninvite (ca : CA) : SpD := fun ds G R EX => ∃ (x : LHand) (i : Nat) (y : LH) (hand : Int), ds = [.ref x.a, .int i, .int hand] ∧ 0 ≤ hand ∧ hand ≤ 7 ∧ hand ≠ x.me ∧ OwnAt ca G x i y ∧ y.Ok ∧ y.rc.over = false ∧ x.own.length ≤ 1000 ∧
  (hand ∈ y.rc.hands → (y.rc.drop hand).Ok ∧ R (.rol (lack x.me i { y with rc := y.rc.drop hand })) (putR ca G y.r (y.rc.drop hand))) ∧ (hand ∉ y.rc.hands → EX (.ref ca.BadHand) none G)
def invited (y : LH) (hand : Int) : LH := { y with rc := y.rc.add hand none nothing, known := knows y.known hand }
def sd_Hand_invite (ca : CA) : SpD := fun ds G R EX => ∃ (x : LHand) (i : Nat) (y : LH) (hand : Int), ds = [.ref x.a, .int i, .int hand] ∧ 0 ≤ hand ∧ hand ≤ 7 ∧ hand ≠ x.me ∧ OwnAt ca G x i y ∧ y.Ok ∧ y.heard = [] ∧ y.rc.over = false ∧ x.own.length ≤ 1000 ∧
  (hand ∉ y.rc.hands → (invited y hand).Ok ∧ R (.rol (lack x.me i (invited y hand))) (updD (putR ca G y.r (invited y hand).rc) y.kn (.dK (kvI .int (invited y hand).known)))) ∧ (hand ∈ y.rc.hands → EX (.ref ca.BadHand) none G)
def called (h r hd kn : Addr) (p : Plan) (gs : List Int) : LH := ⟨h, r, hd, kn, first p gs, [], (first p gs).hands.map fun z => (z, 0)⟩
def putH (ca : CA) (G : DH) (y : LH) : DH := updD (updD (updD (updD G y.r (.ins ca.Record y.rc.fs)) y.hd (.dK (kvI Say.d y.heard))) y.kn (.dK (kvI .int y.known))) y.h (.ins ca.Hosted y.fs)
def sd_Hand_call (ca : CA) : SpD := fun ds G R _ => ∃ (x : LHand) (p : Plan) (gs : List Int), ds = [.ref x.a, p.d, .tup (gs.map .int)] ∧ Base ca G x ∧ p.Ok ∧ gs.Nodup ∧ gs.length ≤ 6 ∧ (∀ g ∈ gs, 0 ≤ g ∧ g ≤ 7 ∧ g ≠ x.me) ∧ x.own.length ≤ 1000 ∧
  ∀ h r hd kn, G h = none → G r = none → G hd = none → G kn = none → h ≠ r → h ≠ hd → h ≠ kn → r ≠ hd → r ≠ kn → hd ≠ kn →
    R (.tup [.int x.own.length, .rol (lack x.me x.own.length (called h r hd kn p gs))]) (updD (putH ca G (called h r hd kn p gs)) x.o (.lst ((x.own.map fun y => .ref y.h) ++ [.ref h])))
end Hd
/-! ### hands: readings -/
namespace Hd
open PySem PySem.Spec PyProof.Rows L2 Cc Pl
def b_is_name : DSt :=
  (sRet (dAndV (dCB dIsi (dCons (dVar 0) (dCons (dC (.ty "str")) dNil))) (dAndV (dOp dLe (dCB dLen (dCons (dVar 0) dNil)) (dC (.int 10))) (dOp dEq (dLcF (iStrD (dVar 0)) (gN 1) (dTest (dOp dNotIn (dVar 1) (dC (.str "abcdefghijklmnopqrstuvwxyz")))) (dVar 1) [1]) (dLstF dNil)))))
abbrev N_is_name : List Str := ["text", "sign"]
def b_need_hand (ca : CA) : DSt :=
  (sIf (dNot (dTest (dCall Pl.sd_is_between (dCons (dVar 0) (dCons (dC (.int 0)) (dCons (dOp dSub (dC (.int 8)) (dC (.int 1))) dNil)))))) (sRaise ca.BadHand) sNext)
abbrev N_need_hand : List Str := ["number"]
def b_Hosted__init_ (ca : CA) : DSt :=
  (sSeq (sFldD ca.Hosted "record" (dVar 0) (dVar 1))
  (sSeq (sFldD ca.Hosted "heard" (dVar 0) dNewK)
  (sFldD ca.Hosted "known" (dVar 0) (dCB dDictP (dCons (dLcF (iSq (dMeth ca.Record "hands" (sd_Record_hands ca) (dVar 1) dNil)) (gN 2) dYes (dTup (dCons (dVar 2) (dCons (dC (.int 0)) dNil))) [2]) dNil)))))
abbrev N_Hosted__init_ : List Str := ["self", "record", "hand"]
def b_Hosted_take (ca : CA) (k : Nat) : DSt :=
  (sSeq (sAsg (dGet2 (dFld ca.Hosted "heard" (dVar 0)) (dVar 1) (dC (.tup [(.int 0), .non, (.tup []), .non]))) (gN 2))
  (sSeq (sIf (dTest (dOp dGt (dOp dIx (dVar 2) (dC (.int 0))) (dOp dIx (dMeth ca.Record "say_of" (sd_Record_say_of ca) (dFld ca.Hosted "record" (dVar 0)) (dCons (dVar 1) dNil)) (dC (.int 0))))) (sDrop (dMeth ca.Record "hear" (sd_Record_hear ca) (dFld ca.Hosted "record" (dVar 0)) (dCons (dVar 1) (dCons (dVar 2) dNil)))) sNext)
  (sIf (dTest (dOp dNotN (dOp dIx (dVar 2) (dC (.int 3))) (dC .non))) (sDrop (dMeth ca.Hosted "add" (sd_Hosted_add ca k) (dVar 0) (dCons (dOp dIx (dVar 2) (dC (.int 3))) (dCons (dVar 1) dNil)))) sNext)))
abbrev N_Hosted_take : List Str := ["self", "hand", "say"]
def b_Hosted_add (ca : CA) (k : Nat) : DSt :=
  (sIf (dTest (dOp dNotIn (dVar 1) (dMeth ca.Record "hands" (sd_Record_hands ca) (dFld ca.Hosted "record" (dVar 0)) dNil))) (sSeq (sDrop (dMeth ca.Record "add" (sd_Record_add ca) (dFld ca.Hosted "record" (dVar 0)) (dCons (dVar 1) (dCons (dVar 2) (dCons (dC (.tup [(.int 0), .non, (.tup []), .non])) dNil)))))
  (sSeq (sDrop (dSetd (dFld ca.Hosted "known" (dVar 0)) (dVar 1) (dC (.int 0))))
  (sDrop (dMeth ca.Hosted "take" (sd_Hosted_take ca k) (dVar 0) (dCons (dVar 1) dNil))))) sNext)
abbrev N_Hosted_add : List Str := ["self", "hand", "by"]
def b_Hand__init_ (ca : CA) : DSt :=
  (sSeq (sDrop (dCall (sd_need_hand ca) (dCons (dVar 1) dNil)))
  (sSeq (sFldD ca.Hand "me" (dVar 0) (dVar 1))
  (sSeq (sFldD ca.Hand "own" (dVar 0) (dLst dNil))
  (sFldD ca.Hand "calls" (dVar 0) dNewT))))
abbrev N_Hand__init_ : List Str := ["self", "number"]
def b_Hand_to : DSt :=
  (sRet (dTup (dCons (dTup (dCons (dC (.str "hand")) (dCons (dVar 1) dNil))) (dCons (dVar 2) dNil))))
abbrev N_Hand_to : List Str := ["self", "hand", "body"]
def b_Hand_tell (ca : CA) : DSt :=
  (sRet (dMeth ca.Hand "to" (sd_Hand_to ca) (dVar 0) (dCons (dVar 2) (dCons (dTup (dCons (dC (.str "tell")) (dCons (dFld ca.Hand "me" (dVar 0)) (dCons (dVar 1) (dCons (dMeth ca.Record "parts" (sd_Record_parts ca) (dFld ca.Hosted "record" (dOp dIx (dFld ca.Hand "own" (dVar 0)) (dVar 1))) dNil) dNil))))) dNil))))
abbrev N_Hand_tell : List Str := ["self", "number", "hand"]
def b_Hand_lacking (ca : CA) : DSt :=
  (sSeq (sAsg (dOp dIx (dFld ca.Hand "own" (dVar 0)) (dVar 1)) (gN 2))
  (sRet (dLcF (iSq (dCB dSortDI (dCons (dFld ca.Hosted "known" (dVar 2)) dNil))) (gN 3) (dTest (dOp dLt (dOp dIx (dFld ca.Hosted "known" (dVar 2)) (dVar 3)) (dFld ca.Record "stamp" (dFld ca.Hosted "record" (dVar 2))))) (dMeth ca.Hand "tell" (sd_Hand_tell ca) (dVar 0) (dCons (dVar 1) (dCons (dVar 3) dNil))) [3])))
abbrev N_Hand_lacking : List Str := ["self", "number", "mine", "hand"]
def b_Hand_hosted (ca : CA) : DSt :=
  (sSeq (sIf (dOr (dNot (dTest (dCall Pl.sd_is_between (dCons (dVar 1) (dCons (dC (.int 0)) (dCons (dOp dSub (dCB dLen (dCons (dFld ca.Hand "own" (dVar 0)) dNil)) (dC (.int 1))) dNil)))))) (dTest (dFld ca.Record "over" (dFld ca.Hosted "record" (dOp dIx (dFld ca.Hand "own" (dVar 0)) (dVar 1)))))) (sRaise ca.NoMeeting) sNext)
  (sRet (dOp dIx (dFld ca.Hand "own" (dVar 0)) (dVar 1))))
abbrev N_Hand_hosted : List Str := ["self", "number"]
def b_Hand_need_guest (ca : CA) : DSt :=
  (sSeq (sDrop (dCall (sd_need_hand ca) (dCons (dVar 1) dNil)))
  (sIf (dTest (dOp dEq (dVar 1) (dFld ca.Hand "me" (dVar 0)))) (sRaise ca.BadHand) sNext))
abbrev N_Hand_need_guest : List Str := ["self", "hand"]
def b_Hand_call (ca : CA) : DSt :=
  (sSeq (sDrop (dCall (Pl.sd_need_plan ca.BadPlan) (dCons (dVar 1) dNil)))
  (sSeq (sFor (iSq (dVar 2)) (gN 3) (sDrop (dMeth ca.Hand "need_guest" (sd_Hand_need_guest ca) (dVar 0) (dCons (dVar 3) dNil))))
  (sSeq (sIf (dOr (dTest (dOp dGt (dCB dLen (dCons (dVar 2) dNil)) (dC (.int 6)))) (dTest (dOp dLt (dLenSet (dVar 2)) (dCB dLen (dCons (dVar 2) dNil))))) (sRaise ca.BadHand) sNext)
  (sSeq (sDrop (dBM "list" mAppend (dFld ca.Hand "own" (dVar 0)) (dCons (dMake ca.Hosted (sd_Hosted__init_ ca) (dCons (dCall (sd_first_record ca) (dCons (dVar 1) (dCons (dVar 2) dNil))) dNil)) dNil)))
  (sRet (dTup (dCons (dOp dSub (dCB dLen (dCons (dFld ca.Hand "own" (dVar 0)) dNil)) (dC (.int 1))) (dCons (dMeth ca.Hand "lacking" (sd_Hand_lacking ca) (dVar 0) (dCons (dOp dSub (dCB dLen (dCons (dFld ca.Hand "own" (dVar 0)) dNil)) (dC (.int 1))) dNil)) dNil))))))))
abbrev N_Hand_call : List Str := ["self", "plan", "guests", "hand"]
def b_Hand_need_begin (ca : CA) : DSt :=
  (sIf (dNot (dTest (dCall Pl.sd_is_between (dCons (dVar 1) (dCons (dC (.int 0)) (dCons (dC (.int 999)) dNil)))))) (sRaise ca.BadWord) sNext)
abbrev N_Hand_need_begin : List Str := ["self", "begin"]
def b_Hand_move (ca : CA) : DSt :=
  (sSeq (sAsg (dMeth ca.Hand "hosted" (sd_Hand_hosted ca) (dVar 0) (dCons (dVar 1) dNil)) (gN 3))
  (sSeq (sDrop (dMeth ca.Hand "need_begin" (sd_Hand_need_begin ca) (dVar 0) (dCons (dVar 2) dNil)))
  (sSeq (sDrop (dMeth ca.Record "move" (sd_Record_move ca) (dFld ca.Hosted "record" (dVar 3)) (dCons (dVar 2) dNil)))
  (sRet (dMeth ca.Hand "lacking" (sd_Hand_lacking ca) (dVar 0) (dCons (dVar 1) dNil))))))
abbrev N_Hand_move : List Str := ["self", "number", "begin", "mine"]
def b_Hand_move_one (ca : CA) : DSt :=
  (sSeq (sAsg (dMeth ca.Hand "hosted" (sd_Hand_hosted ca) (dVar 0) (dCons (dVar 1) dNil)) (gN 4))
  (sSeq (sIf (dNot (dTest (dCall Pl.sd_is_between (dCons (dVar 2) (dCons (dC (.int 0)) (dCons (dOp dSub (dOp dIx (dFld ca.Record "plan" (dFld ca.Hosted "record" (dVar 4))) (dC (.int 3))) (dC (.int 1))) dNil)))))) (sRaise ca.NoMeeting) sNext)
  (sSeq (sIf (dTest (dOp dNotN (dVar 3) (dC .non))) (sDrop (dMeth ca.Hand "need_begin" (sd_Hand_need_begin ca) (dVar 0) (dCons (dVar 3) dNil))) sNext)
  (sSeq (sDrop (dMeth ca.Record "move_one" (sd_Record_move_one ca) (dFld ca.Hosted "record" (dVar 4)) (dCons (dVar 2) (dCons (dVar 3) dNil))))
  (sRet (dMeth ca.Hand "lacking" (sd_Hand_lacking ca) (dVar 0) (dCons (dVar 1) dNil)))))))
abbrev N_Hand_move_one : List Str := ["self", "number", "k", "begin", "mine"]
def b_Hand_rename (ca : CA) : DSt :=
  (sSeq (sAsg (dMeth ca.Hand "hosted" (sd_Hand_hosted ca) (dVar 0) (dCons (dVar 1) dNil)) (gN 3))
  (sSeq (sIf (dNot (dTest (dCall sd_is_name (dCons (dVar 2) dNil)))) (sRaise ca.BadWord) sNext)
  (sSeq (sFldD ca.Record "note" (dFld ca.Hosted "record" (dVar 3)) (dVar 2))
  (sSeq (sDrop (dMeth ca.Record "grow" (sd_Record_grow ca) (dFld ca.Hosted "record" (dVar 3)) dNil))
  (sRet (dMeth ca.Hand "lacking" (sd_Hand_lacking ca) (dVar 0) (dCons (dVar 1) dNil)))))))
abbrev N_Hand_rename : List Str := ["self", "number", "text", "mine"]
def b_Hand_call_off (ca : CA) : DSt :=
  (sSeq (sAsg (dMeth ca.Hand "hosted" (sd_Hand_hosted ca) (dVar 0) (dCons (dVar 1) dNil)) (gN 2))
  (sSeq (sFldD ca.Record "over" (dFld ca.Hosted "record" (dVar 2)) (dC (.bl true)))
  (sSeq (sDrop (dMeth ca.Record "grow" (sd_Record_grow ca) (dFld ca.Hosted "record" (dVar 2)) dNil))
  (sRet (dMeth ca.Hand "lacking" (sd_Hand_lacking ca) (dVar 0) (dCons (dVar 1) dNil))))))
abbrev N_Hand_call_off : List Str := ["self", "number", "mine"]
def b_Hand_invite (ca : CA) : DSt :=
  (sSeq (sAsg (dMeth ca.Hand "hosted" (sd_Hand_hosted ca) (dVar 0) (dCons (dVar 1) dNil)) (gN 3))
  (sSeq (sDrop (dMeth ca.Hand "need_guest" (sd_Hand_need_guest ca) (dVar 0) (dCons (dVar 2) dNil)))
  (sSeq (sIf (dTest (dOp dIn (dVar 2) (dMeth ca.Record "hands" (sd_Record_hands ca) (dFld ca.Hosted "record" (dVar 3)) dNil))) (sRaise ca.BadHand) sNext)
  (sSeq (sDrop (dMeth ca.Hosted "add" (sd_Hosted_add ca 2) (dVar 3) (dCons (dVar 2) (dCons (dC .non) dNil))))
  (sRet (dMeth ca.Hand "lacking" (sd_Hand_lacking ca) (dVar 0) (dCons (dVar 1) dNil)))))))
abbrev N_Hand_invite : List Str := ["self", "number", "hand", "mine"]
def b_Hand_uninvite (ca : CA) : DSt :=
  (sSeq (sAsg (dMeth ca.Hand "hosted" (sd_Hand_hosted ca) (dVar 0) (dCons (dVar 1) dNil)) (gN 3))
  (sSeq (sDrop (dMeth ca.Hand "need_guest" (sd_Hand_need_guest ca) (dVar 0) (dCons (dVar 2) dNil)))
  (sSeq (sIf (dTest (dOp dNotIn (dVar 2) (dMeth ca.Record "hands" (sd_Record_hands ca) (dFld ca.Hosted "record" (dVar 3)) dNil))) (sRaise ca.BadHand) sNext)
  (sSeq (sDrop (dMeth ca.Record "drop" (sd_Record_drop ca) (dFld ca.Hosted "record" (dVar 3)) (dCons (dVar 2) dNil)))
  (sRet (dMeth ca.Hand "lacking" (sd_Hand_lacking ca) (dVar 0) (dCons (dVar 1) dNil)))))))
abbrev N_Hand_uninvite : List Str := ["self", "number", "hand", "mine"]
def b_Hand_book (ca : CA) : DSt :=
  (sSeq (sAsg (dLst dNil) (gN 1))
  (sSeq (sFor (iEnumD (dFld ca.Hand "own" (dVar 0))) (gT 2 (gsCons (gN 2) (gsCons (gN 3) gsNil))) (sIf (dNot (dTest (dFld ca.Record "over" (dFld ca.Hosted "record" (dVar 3))))) (sDrop (dBM "list" mAppend (dVar 1) (dCons (dMeth ca.Record "told" (sd_Record_told ca) (dFld ca.Hosted "record" (dVar 3)) (dCons (dFld ca.Hand "me" (dVar 0)) (dCons (dVar 2) (dCons (dC .non) (dCons (dC (.tup [(.int 0), .non, (.tup []), .non])) dNil))))) dNil))) sNext))
  (sSeq (sFor (iSq (dCB dSortDT (dCons (dFld ca.Hand "calls" (dVar 0)) dNil))) (gT 2 (gsCons (gN 4) (gsCons (gN 2) gsNil))) (sSeq (sAsg (dOp dIx (dFld ca.Hand "calls" (dVar 0)) (dKey (dCons (dVar 4) (dCons (dVar 2) dNil)))) (gN 5))
  (sIf (dAnd (dTest (dOp dNotN (dFld ca.Asked "record" (dVar 5)) (dC .non))) (dAnd (dNot (dTest (dFld ca.Record "over" (dFld ca.Asked "record" (dVar 5))))) (dTest (dOp dIn (dFld ca.Hand "me" (dVar 0)) (dMeth ca.Record "hands" (sd_Record_hands ca) (dFld ca.Asked "record" (dVar 5)) dNil))))) (sDrop (dBM "list" mAppend (dVar 1) (dCons (dMeth ca.Record "told" (sd_Record_told ca) (dFld ca.Asked "record" (dVar 5)) (dCons (dVar 4) (dCons (dVar 2) (dCons (dFld ca.Hand "me" (dVar 0)) (dCons (dFld ca.Asked "say" (dVar 5)) dNil))))) dNil))) sNext)))
  (sFz 1 (sRet (dSortGF encII kII (dVar 1)))))))
abbrev N_Hand_book : List Str := ["self", "found", "number", "mine", "host", "call"]
end Hd
/-! ### hands: the hands' defs by their readings -/
namespace Hd
open PySem PySem.Spec PyProof.Rows L2 Cc Pl
open PySem.W (EachIs AllAlike Sortable dataLe)
local macro_rules | `(tactic| walk_at "rd") => `(tactic| try simp only [sSeq, sIf, sAsg, sRet, sRetN, sDrop, sNext, gN, gT, gsCons, gsNil, gsNames, wipeD, D.tl, dTest, dAnd, dOr, dNot, dAndV, dOrV, dNotV, dIf, dOp, dUn, dVar, dC, dCons, dNil, dCB, dCall, dTup, dLst, dLstF, dYes, blD_bl, dEq_int, dNe_int, dEq_bl, dNe_bl, dEq_str, dChain, vadd_int, vadd_rol, vadd_tup, vmul_int, vsub_int, vlt_int, vle_int, vgt_int, vge_int, vmax_int, vmin_int, vneg_int, vlen_tup, vlen_rol, vtup_rol, vtup_tup, vlist_rol, vlist_tup, vix_tup, vix_rol, vat_0, vat_1, vat_2, vat_3, vat_4, vat_5, vat_6, vsl_tup, vsl_rol, visi_non_bool, visi_non_int, visi_non_str, visi_non_tuple, visi_non_list, visi_bl_bool, visi_bl_int, visi_bl_str, visi_bl_tuple, visi_bl_list, visi_int_bool, visi_int_int, visi_int_str, visi_int_tuple, visi_int_list, visi_str_bool, visi_str_int, visi_str_str, visi_str_tuple, visi_str_list, visi_tup_bool, visi_tup_int, visi_tup_str, visi_tup_tuple, visi_tup_list, visi_key_bool, visi_key_int, visi_key_str, visi_key_tuple, visi_key_list, visi_rol_bool, visi_rol_int, visi_rol_str, visi_rol_tuple, visi_rol_list, dBM, vtyL, vapp, vlen_upd, vix_upd, vsz_0, vsz_1, vsz_2, vsz_3, vsz_4, vsz_5, vsz_6, vsz_7, vsz_8, vsz_9, dIsN, dNotN, D.isN, List.getElem?_cons_zero, List.getElem?_cons_succ, List.set_cons_zero, List.set_cons_succ, List.length_cons, List.length_nil, decide_eq_true_eq, if_true, if_false, Bool.false_eq_true, ite_true, ite_false, true_and, and_true, Bool.not_true, Bool.not_false])
local macro_rules | `(tactic| walk_at "hd") => `(tactic| try simp only [sSeq, sIf, sAsg, sRet, sRetN, sDrop, sNext, gN, gT, gsCons, gsNil, gsNames, wipeD, D.tl, dTest, dAnd, dOr, dNot, dAndV, dOrV, dNotV, dIf, dOp, dUn, dVar, dC, dCons, dNil, dCB, dCall, dTup, dLst, dLstF, dYes, blD_bl, dEq_int, dNe_int, dEq_bl, dNe_bl, dEq_str, dChain, vadd_int, vadd_rol, vadd_tup, vmul_int, vsub_int, vlt_int, vle_int, vgt_int, vge_int, vmax_int, vmin_int, vneg_int, vlen_tup, vlen_rol, vtup_rol, vtup_tup, vlist_rol, vlist_tup, vix_tup, vix_rol, vat_0, vat_1, vat_2, vat_3, vat_4, vat_5, vat_6, vsl_tup, vsl_rol, visi_non_bool, visi_non_int, visi_non_str, visi_non_tuple, visi_non_list, visi_bl_bool, visi_bl_int, visi_bl_str, visi_bl_tuple, visi_bl_list, visi_int_bool, visi_int_int, visi_int_str, visi_int_tuple, visi_int_list, visi_str_bool, visi_str_int, visi_str_str, visi_str_tuple, visi_str_list, visi_tup_bool, visi_tup_int, visi_tup_str, visi_tup_tuple, visi_tup_list, visi_key_bool, visi_key_int, visi_key_str, visi_key_tuple, visi_key_list, visi_rol_bool, visi_rol_int, visi_rol_str, visi_rol_tuple, visi_rol_list, dBM, vtyL, vapp, vlen_upd, vix_upd, vsz_0, vsz_1, vsz_2, vsz_3, vsz_4, vsz_5, vsz_6, vsz_7, vsz_8, vsz_9, dIsN, dNotN, D.isN, List.getElem?_cons_zero, List.getElem?_cons_succ, List.set_cons_zero, List.set_cons_succ, List.length_cons, List.length_nil, decide_eq_true_eq, if_true, if_false, Bool.false_eq_true, ite_true, ite_false, true_and, and_true, Bool.not_true, Bool.not_false, dFld, sFldD, gF, dMeth, dMake, dTupP, dSl, oSome, oNo, updD_same, updD_updD, lk_stamp, lk_version, lk_over, lk_plan, lk_note, lk_ones, lk_guests, lk_says, lk_grow, lk_move, lk_move_one, lk_add, lk_drop, lk_hear, lk_rows, lk_told, lk_hands, lk_say_of, lk_parts, pf_stamp, pf_version, pf_over, pf_plan, pf_note, pf_ones, pf_ones0, pf_guests, pf_says, fs_len, lt8, vsl_plan, pf_plan2, vix_plan1, vix_plan3])
theorem lh_record (x : LH) : List.lookup ("record" : Str) x.fs = some (.ref x.r) := rfl
theorem lh_heard (x : LH) : List.lookup ("heard" : Str) x.fs = some (.ref x.hd) := rfl
theorem lh_known (x : LH) : List.lookup ("known" : Str) x.fs = some (.ref x.kn) := rfl
theorem lh_take (x : LH) : List.lookup ("take" : Str) x.fs = none := rfl
theorem lh_add (x : LH) : List.lookup ("add" : Str) x.fs = none := rfl
theorem la_me (x : LHand) : List.lookup ("me" : Str) x.fs = some (.int x.me) := rfl
theorem la_own (x : LHand) : List.lookup ("own" : Str) x.fs = some (.ref x.o) := rfl
theorem la_calls (x : LHand) : List.lookup ("calls" : Str) x.fs = some (.ref x.c) := rfl
theorem la_to (x : LHand) : List.lookup ("to" : Str) x.fs = none := rfl
theorem la_tell (x : LHand) : List.lookup ("tell" : Str) x.fs = none := rfl
theorem la_lacking (x : LHand) : List.lookup ("lacking" : Str) x.fs = none := rfl
theorem la_hosted (x : LHand) : List.lookup ("hosted" : Str) x.fs = none := rfl
theorem la_need_guest (x : LHand) : List.lookup ("need_guest" : Str) x.fs = none := rfl
theorem la_need_begin (x : LHand) : List.lookup ("need_begin" : Str) x.fs = none := rfl
section
variable {ca : CA} {G : DH} {x : LHand} {i : Nat} {y : LH}
/-- own[i] -/
theorem own_at (h : OwnAt ca G x i y) {R : DK} (q : R (.ref y.h) G) : dIx (.ref x.o) (.int i) G R := by
  have e : L2.atI (x.own.map fun y => D.ref y.h) (i : Int) = some (.ref y.h) := Cc.atI_nat (by rw [List.getElem?_map, h.i]; rfl)
  unfold dIx itemOf
  dsimp only
  rw [h.o]
  dsimp only
  rw [e]
  exact q
theorem known_at {hand : Int} {p : Int × Int} (h : HostAt ca G y) (e : (y.known.find? fun p => decide (p.1 = hand)) = some p) {R : DK} (q : R (.int p.2) G) : dIx (.ref y.kn) (.int hand) G R := by
  have e2 : lookK (kvI D.int y.known) (Sum.inl hand) = some (.int p.2) := by
    unfold kvI
    rw [look_map, e]
    rfl
  unfold dIx itemOf
  dsimp only
  rw [h.kn]
  dsimp only [D.ky, Option.bind_some]
  rw [e2]
  exact q
end
theorem pure_Hand_to (ds : List D) (ca : CA) (G : DH) (R : DK) (EX : DX) (h : sd_Hand_to ca ds G R EX) : b_Hand_to (endsD (frg R) EX) (startD N_Hand_to ds) G := by
  obtain ⟨a, hand, body, rfl, q⟩ := h
  show b_Hand_to (endsD (frg R) EX) [some (.ref a), some (.int hand), some (.tup body)] G
  unfold b_Hand_to
  walk_at "hd"
  exact frg_of q
theorem pure_Hand_tell (ca : CA) (ds : List D) (G : DH) (R : DK) (EX : DX) (h : sd_Hand_tell ca ds G R EX) : b_Hand_tell ca (endsD (frg R) EX) (startD N_Hand_tell ds) G := by
  obtain ⟨x, i, y, hand, rfl, h, q⟩ := h
  show b_Hand_tell ca (endsD (frg R) EX) [some (.ref x.a), some (.int i), some (.int hand)] G
  unfold b_Hand_tell
  walk_at "hd"
  simp only [h.a, la_to, la_me, la_own, true_and]
  refine own_at h ?_
  simp only [h.y.h, lh_record, h.y.r, lk_parts, true_and]
  refine ⟨y.r, y.rc, rfl, h.y.r, ?_⟩
  walk_at "hd"
  refine ⟨x.a, hand, _, rfl, ?_⟩
  exact frg_of q
theorem pure_Hand_lacking (ca : CA) (ds : List D) (G : DH) (R : DK) (EX : DX) (h : sd_Hand_lacking ca ds G R EX) : b_Hand_lacking ca (endsD (frg R) EX) (startD N_Hand_lacking ds) G := by
  obtain ⟨x, i, y, rfl, h, ok, q⟩ := h
  show b_Hand_lacking ca (endsD (frg R) EX) [some (.ref x.a), some (.int i), none, none] G
  unfold b_Hand_lacking
  walk_at "hd"
  simp only [h.a, la_own, true_and]
  refine own_at h ?_
  simp only [dLcF, iSq]
  walk_at "hd"
  simp only [h.y.h, lh_known, true_and]
  have hs : (sortI (y.known.map (·.1))).length = y.known.length := by unfold sortI; rw [List.length_mergeSort, List.length_map]
  refine ⟨kvI .int y.known, y.known.map (·.1), ?_, ?_, by rw [List.length_map]; exact ok.few, ?_⟩
  · simp only [dictOf, h.y.kn]
  · unfold kvI
    rw [List.map_map, List.map_map]
    rfl
  · dsimp only
    refine goLcF_mem (ok := fun _ => True) (G := G) (f := D.int) (fun hand : Int => if needs y hand = true then some (tellD x.me i y.rc hand) else none) trivial (sortI (y.known.map (·.1))) [] (fun hand hm C1 C2 hC => ?_) (by rw [List.length_nil, hs]; exact sz_small (by have := ok.few; omega)) ?_
    · have hm2 : hand ∈ y.known.map (·.1) := (List.mergeSort_perm _ _).mem_iff.mp hm
      obtain ⟨p, hp, hpe⟩ := List.mem_map.mp hm2
      walk_at "hd"
      simp only [h.y.h, lh_known, lh_record, h.y.r, lk_stamp, true_and]
      obtain ⟨p', hp'⟩ : ∃ p', (y.known.find? fun p => decide (p.1 = hand)) = some p' := by
        cases hf : y.known.find? fun p => decide (p.1 = hand) with
        | some p' => exact ⟨p', rfl⟩
        | none =>
          have := List.find?_eq_none.mp hf p hp
          simp [hpe] at this
      refine known_at h.y hp' ?_
      have en : needs y hand = decide (p'.2 < y.rc.stamp) := by
        unfold needs
        rw [hp']
      simp only [h.y.h, lh_record, h.y.r, lk_stamp, true_and]
      walk_at "hd"
      rw [en] at hC
      by_cases hl : p'.2 < y.rc.stamp
      · rw [if_pos hl]
        simp only [hl, decide_true, if_true] at hC
        simp only [h.a, la_tell, true_and]
        exact ⟨x, i, y, hand, rfl, h, hC⟩
      · rw [if_neg hl]
        simp only [hl, decide_false, Bool.false_eq_true, if_false] at hC
        exact hC
    · rw [fm_filter, List.nil_append]
      exact frg_of q
theorem pure_need_hand (ca : CA) (ds : List D) (G : DH) (R : DK) (EX : DX) (h : sd_need_hand ca ds G R EX) : b_need_hand ca (endsD (frg R) EX) (startD N_need_hand ds) G := by
  obtain ⟨n, rfl, q1, q2⟩ := h
  show b_need_hand ca (endsD (frg R) EX) [some (.int n)] G
  unfold b_need_hand
  walk_at "hd"
  refine ⟨.int n, 0, 7, rfl, .int _, ?_⟩
  walk_at "hd"
  unfold btw
  by_cases h : 0 ≤ n ∧ n ≤ 7
  · have e : (decide (0 ≤ n) && decide (n ≤ 7)) = true := by rw [decide_eq_true h.1, decide_eq_true h.2]; rfl
    simp only [e]
    walk_at "hd"
    exact frg_of (q1 h)
  · have e : (decide (0 ≤ n) && decide (n ≤ 7)) = false := by
      rw [Bool.and_eq_false_iff, decide_eq_false_iff_not, decide_eq_false_iff_not]
      omega
    simp only [e]
    walk_at "hd"
    exact q2 h
theorem pure_Hand_need_begin (ca : CA) (ds : List D) (G : DH) (R : DK) (EX : DX) (h : sd_Hand_need_begin ca ds G R EX) : b_Hand_need_begin ca (endsD (frg R) EX) (startD N_Hand_need_begin ds) G := by
  obtain ⟨a, n, rfl, q1, q2⟩ := h
  show b_Hand_need_begin ca (endsD (frg R) EX) [some (.ref a), some (.int n)] G
  unfold b_Hand_need_begin
  walk_at "hd"
  refine ⟨.int n, 0, 999, rfl, .int _, ?_⟩
  walk_at "hd"
  unfold btw
  by_cases h : 0 ≤ n ∧ n ≤ 999
  · have e : (decide (0 ≤ n) && decide (n ≤ 999)) = true := by rw [decide_eq_true h.1, decide_eq_true h.2]; rfl
    simp only [e]
    walk_at "hd"
    exact frg_of (q1 h)
  · have e : (decide (0 ≤ n) && decide (n ≤ 999)) = false := by
      rw [Bool.and_eq_false_iff, decide_eq_false_iff_not, decide_eq_false_iff_not]
      omega
    simp only [e]
    walk_at "hd"
    exact q2 h
theorem pure_Hand_need_guest (ca : CA) (ds : List D) (G : DH) (R : DK) (EX : DX) (h : sd_Hand_need_guest ca ds G R EX) : b_Hand_need_guest ca (endsD (frg R) EX) (startD N_Hand_need_guest ds) G := by
  obtain ⟨x, n, rfl, h, q1, q2⟩ := h
  show b_Hand_need_guest ca (endsD (frg R) EX) [some (.ref x.a), some (.int n)] G
  unfold b_Hand_need_guest
  walk_at "hd"
  refine ⟨n, rfl, fun hn => ?_, fun hn => q2 fun z => hn ⟨z.1, z.2.1⟩⟩
  walk_at "hd"
  simp only [h.a, la_me, true_and]
  walk_at "hd"
  by_cases e : n = x.me
  · rw [if_pos e]
    exact q2 fun z => z.2.2 e
  · rw [if_neg e]
    exact frg_of (q1 ⟨hn.1, hn.2, e⟩)
theorem pure_Hand_hosted (ca : CA) (ds : List D) (G : DH) (R : DK) (EX : DX) (h : sd_Hand_hosted ca ds G R EX) : b_Hand_hosted ca (endsD (frg R) EX) (startD N_Hand_hosted ds) G := by
  obtain ⟨x, i, y, rfl, h, ho, hl, q⟩ := h
  show b_Hand_hosted ca (endsD (frg R) EX) [some (.ref x.a), some (.int i)] G
  have hi : i < x.own.length := by
    have := h.i
    rw [List.getElem?_eq_some_iff] at this
    exact this.1
  unfold b_Hand_hosted
  walk_at "hd"
  simp only [h.a, la_own, true_and]
  have hlen : ∀ R : DK, R (.int x.own.length) G → dLen [.ref x.o] G R := fun R q => by
    unfold dLen lenOf
    dsimp only
    rw [h.o]
    dsimp only
    rw [List.length_map]
    exact q
  refine hlen _ ?_
  walk_at "hd"
  refine ⟨.int i, 0, (x.own.length : Int) - 1, rfl, .int _, ?_⟩
  have e : btw (.int i) 0 ((x.own.length : Int) - 1) = true := by
    unfold btw
    simp only [Bool.and_eq_true, decide_eq_true_eq]
    omega
  rw [e]
  walk_at "hd"
  simp only [h.a, la_own, true_and]
  refine own_at h ?_
  simp only [h.y.h, lh_record, h.y.r, lk_over, ho, true_and]
  walk_at "hd"
  simp only [h.a, la_own, true_and]
  refine own_at h ?_
  exact frg_of q
theorem set_refs {own : List LH} {i : Nat} {y y' : LH} (h : own[i]? = some y) (e : y'.h = y.h) : ((own.set i y').map fun z => D.ref z.h) = own.map fun z => .ref z.h := by
  rw [List.map_set, e]
  refine List.ext_getElem? fun j => ?_
  rw [List.getElem?_set]
  split
  · rename_i hj
    subst hj
    split
    · rw [List.getElem?_map, h]; rfl
    · rename_i hl
      rw [List.getElem?_eq_none (by omega)]
  · rfl
section
variable {ca : CA} {G : DH} {x : LHand} {i : Nat} {y : LH}
def insLen : C → Nat
  | .ins _ fs => fs.length
  | _ => 0
theorem OwnAt.na (h : OwnAt ca G x i y) : x.a ≠ y.r := neDD h.a h.y.r fun z => absurd (show (3 : Nat) = 8 from congrArg insLen z) (by decide)
theorem OwnAt.no (h : OwnAt ca G x i y) : x.o ≠ y.r := neDD h.o h.y.r fun z => by cases z
theorem OwnAt.nc (h : OwnAt ca G x i y) : x.c ≠ y.r := neDD h.c h.y.r fun z => by cases z
theorem HostAt.nh (h : HostAt ca G y) : y.h ≠ y.r := neDD h.h h.r fun z => absurd (show (3 : Nat) = 8 from congrArg insLen z) (by decide)
theorem HostAt.nhd (h : HostAt ca G y) : y.hd ≠ y.r := neDD h.hd h.r fun z => by cases z
theorem HostAt.nkn (h : HostAt ca G y) : y.kn ≠ y.r := neDD h.kn h.r fun z => by cases z
theorem HostAt.nhk (h : HostAt ca G y) : y.h ≠ y.kn := neDD h.h h.kn fun z => by cases z
theorem HostAt.put (h : HostAt ca G y) (r : Rec) : HostAt ca (putR ca G y.r r) { y with rc := r } :=
  ⟨by rw [putR, updD_ne h.nh]; exact h.h, updD_same, by rw [putR, updD_ne h.nhd]; exact h.hd, by rw [putR, updD_ne h.nkn]; exact h.kn, h.ne⟩
theorem OwnAt.put (h : OwnAt ca G x i y) (r : Rec) : OwnAt ca (putR ca G y.r r) { x with own := x.own.set i { y with rc := r } } i { y with rc := r } :=
  { a := by rw [putR, updD_ne h.na]; exact h.a
    o := by
      rw [putR, updD_ne h.no]
      show _ = some (C.lst ((x.own.set i { y with rc := r }).map fun z => D.ref z.h))
      rw [set_refs (y' := { y with rc := r }) h.i rfl]
      exact h.o
    c := by rw [putR, updD_ne h.nc]; exact h.c
    i := by
      have hi : i < x.own.length := (List.getElem?_eq_some_iff.mp h.i).1
      rw [List.getElem?_set_self hi]
    y := h.y.put r }
end
/-- after a deed that wrote at the record: what is told -/
theorem lack_of {ca : CA} {G : DH} {x : LHand} {i : Nat} {y : LH} {r : Rec} {R : DK} {EX : DX} (h : OwnAt ca G x i y) (ok : y.Ok) (okr : r.Ok) (q : R (.rol (lack x.me i { y with rc := r })) (putR ca G y.r r)) :
    (match putR ca G y.r r x.a with
    | some (.ins c fs) => c = ca.Hand ∧ List.lookup ("lacking" : Str) fs = none ∧ sd_Hand_lacking ca [.ref x.a, .int i] (putR ca G y.r r) R EX
    | _ => False) := by
  have h' := h.put r
  rw [show putR ca G y.r r x.a = some (.ins ca.Hand x.fs) from by rw [putR, updD_ne h.na]; exact h.a]
  exact ⟨rfl, rfl, { x with own := x.own.set i { y with rc := r } }, i, _, rfl, h', ⟨okr, ok.known, ok.few⟩, q⟩
theorem pure_Hand_move (ca : CA) (ds : List D) (G : DH) (R : DK) (EX : DX) (h : sd_Hand_move ca ds G R EX) : b_Hand_move ca (endsD (frg R) EX) (startD N_Hand_move ds) G := by
  obtain ⟨x, i, y, b, rfl, b0, b1, h, ok, ho, hl, okr, q⟩ := h
  show b_Hand_move ca (endsD (frg R) EX) [some (.ref x.a), some (.int i), some (.int b), none] G
  unfold b_Hand_move
  walk_at "hd"
  simp only [h.a, la_hosted, true_and]
  refine ⟨x, i, y, rfl, h, ho, hl, ?_⟩
  simp only [h.a, la_need_begin, true_and]
  refine ⟨x.a, b, rfl, fun _ => ?_, fun z => absurd ⟨b0, b1⟩ z⟩
  walk_at "hd"
  simp only [h.y.h, lh_record, h.y.r, lk_move, true_and]
  refine ⟨y.r, y.rc, b, rfl, h.y.r, ?_⟩
  exact lack_of h ok okr (frg_of q)
end Hd
/-! ### hands: more deeds -/
namespace Hd
open PySem PySem.Spec PyProof.Rows L2 Cc Pl
open PySem.W (EachIs AllAlike Sortable dataLe)
local macro_rules | `(tactic| walk_at "rd") => `(tactic| try simp only [sSeq, sIf, sAsg, sRet, sRetN, sDrop, sNext, gN, gT, gsCons, gsNil, gsNames, wipeD, D.tl, dTest, dAnd, dOr, dNot, dAndV, dOrV, dNotV, dIf, dOp, dUn, dVar, dC, dCons, dNil, dCB, dCall, dTup, dLst, dLstF, dYes, blD_bl, dEq_int, dNe_int, dEq_bl, dNe_bl, dEq_str, dChain, vadd_int, vadd_rol, vadd_tup, vmul_int, vsub_int, vlt_int, vle_int, vgt_int, vge_int, vmax_int, vmin_int, vneg_int, vlen_tup, vlen_rol, vtup_rol, vtup_tup, vlist_rol, vlist_tup, vix_tup, vix_rol, vat_0, vat_1, vat_2, vat_3, vat_4, vat_5, vat_6, vsl_tup, vsl_rol, visi_non_bool, visi_non_int, visi_non_str, visi_non_tuple, visi_non_list, visi_bl_bool, visi_bl_int, visi_bl_str, visi_bl_tuple, visi_bl_list, visi_int_bool, visi_int_int, visi_int_str, visi_int_tuple, visi_int_list, visi_str_bool, visi_str_int, visi_str_str, visi_str_tuple, visi_str_list, visi_tup_bool, visi_tup_int, visi_tup_str, visi_tup_tuple, visi_tup_list, visi_key_bool, visi_key_int, visi_key_str, visi_key_tuple, visi_key_list, visi_rol_bool, visi_rol_int, visi_rol_str, visi_rol_tuple, visi_rol_list, dBM, vtyL, vapp, vlen_upd, vix_upd, vsz_0, vsz_1, vsz_2, vsz_3, vsz_4, vsz_5, vsz_6, vsz_7, vsz_8, vsz_9, dIsN, dNotN, D.isN, List.getElem?_cons_zero, List.getElem?_cons_succ, List.set_cons_zero, List.set_cons_succ, List.length_cons, List.length_nil, decide_eq_true_eq, if_true, if_false, Bool.false_eq_true, ite_true, ite_false, true_and, and_true, Bool.not_true, Bool.not_false])
local macro_rules | `(tactic| walk_at "hd") => `(tactic| try simp only [sSeq, sIf, sAsg, sRet, sRetN, sDrop, sNext, gN, gT, gsCons, gsNil, gsNames, wipeD, D.tl, dTest, dAnd, dOr, dNot, dAndV, dOrV, dNotV, dIf, dOp, dUn, dVar, dC, dCons, dNil, dCB, dCall, dTup, dLst, dLstF, dYes, blD_bl, dEq_int, dNe_int, dEq_bl, dNe_bl, dEq_str, dChain, vadd_int, vadd_rol, vadd_tup, vmul_int, vsub_int, vlt_int, vle_int, vgt_int, vge_int, vmax_int, vmin_int, vneg_int, vlen_tup, vlen_rol, vtup_rol, vtup_tup, vlist_rol, vlist_tup, vix_tup, vix_rol, vat_0, vat_1, vat_2, vat_3, vat_4, vat_5, vat_6, vsl_tup, vsl_rol, visi_non_bool, visi_non_int, visi_non_str, visi_non_tuple, visi_non_list, visi_bl_bool, visi_bl_int, visi_bl_str, visi_bl_tuple, visi_bl_list, visi_int_bool, visi_int_int, visi_int_str, visi_int_tuple, visi_int_list, visi_str_bool, visi_str_int, visi_str_str, visi_str_tuple, visi_str_list, visi_tup_bool, visi_tup_int, visi_tup_str, visi_tup_tuple, visi_tup_list, visi_key_bool, visi_key_int, visi_key_str, visi_key_tuple, visi_key_list, visi_rol_bool, visi_rol_int, visi_rol_str, visi_rol_tuple, visi_rol_list, dBM, vtyL, vapp, vlen_upd, vix_upd, vsz_0, vsz_1, vsz_2, vsz_3, vsz_4, vsz_5, vsz_6, vsz_7, vsz_8, vsz_9, dIsN, dNotN, D.isN, List.getElem?_cons_zero, List.getElem?_cons_succ, List.set_cons_zero, List.set_cons_succ, List.length_cons, List.length_nil, decide_eq_true_eq, if_true, if_false, Bool.false_eq_true, ite_true, ite_false, true_and, and_true, Bool.not_true, Bool.not_false, dFld, sFldD, gF, dMeth, dMake, dTupP, dSl, oSome, oNo, updD_same, updD_updD, lk_stamp, lk_version, lk_over, lk_plan, lk_note, lk_ones, lk_guests, lk_says, lk_grow, lk_move, lk_move_one, lk_add, lk_drop, lk_hear, lk_rows, lk_told, lk_hands, lk_say_of, lk_parts, pf_stamp, pf_version, pf_over, pf_plan, pf_note, pf_ones, pf_ones0, pf_guests, pf_says, fs_len, lt8, vsl_plan, pf_plan2, vix_plan1, vix_plan3])
theorem pure_Hand_move_one (ca : CA) (ds : List D) (G : DH) (R : DK) (EX : DX) (h : sd_Hand_move_one ca ds G R EX) : b_Hand_move_one ca (endsD (frg R) EX) (startD N_Hand_move_one ds) G := by
  obtain ⟨x, i, y, k, b, rfl, hb, k0, k1, h, ok, ho, hl, okr, q⟩ := h
  show b_Hand_move_one ca (endsD (frg R) EX) [some (.ref x.a), some (.int i), some (.int k), some (oD b), none] G
  unfold b_Hand_move_one
  walk_at "hd"
  simp only [h.a, la_hosted, true_and]
  refine ⟨x, i, y, rfl, h, ho, hl, ?_⟩
  simp only [h.y.h, lh_record, h.y.r, lk_plan, true_and]
  walk_at "hd"
  refine ⟨.int k, 0, y.rc.plan.m - 1, rfl, .int _, ?_⟩
  have e : btw (.int k) 0 (y.rc.plan.m - 1) = true := by
    unfold btw
    simp only [Bool.and_eq_true, decide_eq_true_eq]
    omega
  rw [e]
  walk_at "hd"
  have tail : sd_Record_move_one ca [.ref y.r, .int k, oD b] G (fun _ G1 => (match G1 x.a with
    | some (.ins c fs) => c = ca.Hand ∧ List.lookup ("lacking" : Str) fs = none ∧ sd_Hand_lacking ca [.ref x.a, .int i] G1 (frg R) EX
    | _ => False)) EX := ⟨y.r, y.rc, k, b, rfl, h.y.r, ok.rc, lack_of h ok okr (frg_of q)⟩
  cases b with
  | none =>
    simp only [oD] at tail ⊢
    walk_at "hd"
    simp only [h.y.h, lh_record, h.y.r, lk_move_one, true_and]
    exact tail
  | some n =>
    simp only [oD] at tail ⊢
    walk_at "hd"
    simp only [h.a, la_need_begin, true_and]
    refine ⟨x.a, n, rfl, fun _ => ?_, fun z => absurd (hb n rfl) z⟩
    walk_at "hd"
    simp only [h.y.h, lh_record, h.y.r, lk_move_one, true_and]
    exact tail
theorem pure_Hand_rename (ca : CA) (ds : List D) (G : DH) (R : DK) (EX : DX) (h : sd_Hand_rename ca ds G R EX) : b_Hand_rename ca (endsD (frg R) EX) (startD N_Hand_rename ds) G := by
  obtain ⟨x, i, y, z, rfl, hz, h, ok, ho, hl, okr, q⟩ := h
  show b_Hand_rename ca (endsD (frg R) EX) [some (.ref x.a), some (.int i), some (.str z), none] G
  unfold b_Hand_rename
  walk_at "hd"
  simp only [h.a, la_hosted, true_and]
  refine ⟨x, i, y, rfl, h, ho, hl, ?_⟩
  walk_at "hd"
  refine ⟨z, rfl, hz, ?_⟩
  walk_at "hd"
  have n1 : updD G y.r (.ins ca.Record (Rec.fs { y.rc with note := z })) y.h = some (.ins ca.Hosted y.fs) := by rw [updD_ne h.y.nh]; exact h.y.h
  simp only [h.y.h, lh_record, h.y.r, lk_grow, pf_note, fs_len, lt8, n1, updD_same, true_and]
  refine ⟨y.r, _, rfl, updD_same, ?_⟩
  have e : putR ca (updD G y.r (.ins ca.Record (Rec.fs { y.rc with note := z }))) y.r (Rec.grow { y.rc with note := z }) = putR ca G y.r (Rec.grow { y.rc with note := z }) := by
    unfold putR
    rw [updD_updD]
  rw [e]
  exact lack_of h ok okr (frg_of q)
theorem pure_Hand_call_off (ca : CA) (ds : List D) (G : DH) (R : DK) (EX : DX) (h : sd_Hand_call_off ca ds G R EX) : b_Hand_call_off ca (endsD (frg R) EX) (startD N_Hand_call_off ds) G := by
  obtain ⟨x, i, y, rfl, h, ok, ho, hl, okr, q⟩ := h
  show b_Hand_call_off ca (endsD (frg R) EX) [some (.ref x.a), some (.int i), none] G
  unfold b_Hand_call_off
  walk_at "hd"
  simp only [h.a, la_hosted, true_and]
  refine ⟨x, i, y, rfl, h, ho, hl, ?_⟩
  have n1 : updD G y.r (.ins ca.Record (Rec.fs { y.rc with over := true })) y.h = some (.ins ca.Hosted y.fs) := by rw [updD_ne h.y.nh]; exact h.y.h
  simp only [h.y.h, lh_record, h.y.r, lk_grow, pf_over, fs_len, lt8, n1, updD_same, true_and]
  refine ⟨y.r, _, rfl, updD_same, ?_⟩
  have e : putR ca (updD G y.r (.ins ca.Record (Rec.fs { y.rc with over := true }))) y.r (Rec.grow { y.rc with over := true }) = putR ca G y.r (Rec.grow { y.rc with over := true }) := by
    unfold putR
    rw [updD_updD]
  rw [e]
  exact lack_of h ok okr (frg_of q)
theorem flat_ints (l : List Int) : (l.map D.int).all D.flat = true := by
  rw [List.all_eq_true]
  intro d hd
  obtain ⟨x, _, rfl⟩ := List.mem_map.mp hd
  rfl
theorem in_ints {n : Int} (l : List Int) : inF (.int n) (l.map .int) = decide (n ∈ l) := by
  unfold inF
  rw [List.any_map, Bool.eq_iff_iff, List.any_eq_true, decide_eq_true_iff]
  refine ⟨fun ⟨x, hx, e⟩ => ?_, fun h => ⟨n, h, ?_⟩⟩
  · have e : eqF (.int x) (.int n) = true ∨ eqF (.int n) (.int x) = true := by first | exact .inl e | exact .inr e
    have : x = n := by
      rcases e with e | e <;> simp [eqF] at e <;> omega
    rw [← this]
    exact hx
  · simp [eqF]
theorem vin_ints {n : Int} {l : List Int} {G : DH} {R : DK} (q : R (.bl (decide (n ∈ l))) G) : dIn (.int n) (.rol (l.map .int)) G R := by
  unfold dIn inOf
  simp only [seqOf, D.flat, flat_ints, Bool.and_self, if_true, in_ints]
  exact q
theorem vnin_ints {n : Int} {l : List Int} {G : DH} {R : DK} (q : R (.bl (!decide (n ∈ l))) G) : dNotIn (.int n) (.rol (l.map .int)) G R := by
  unfold dNotIn inOf
  simp only [seqOf, D.flat, flat_ints, Bool.and_self, if_true, in_ints]
  exact q
theorem pure_Hand_uninvite (ca : CA) (ds : List D) (G : DH) (R : DK) (EX : DX) (h : sd_Hand_uninvite ca ds G R EX) : b_Hand_uninvite ca (endsD (frg R) EX) (startD N_Hand_uninvite ds) G := by
  obtain ⟨x, i, y, hand, rfl, h0, h7, hm, h, ok, ho, hl, q1, q2⟩ := h
  show b_Hand_uninvite ca (endsD (frg R) EX) [some (.ref x.a), some (.int i), some (.int hand), none] G
  unfold b_Hand_uninvite
  walk_at "hd"
  simp only [h.a, la_hosted, true_and]
  refine ⟨x, i, y, rfl, h, ho, hl, ?_⟩
  simp only [h.a, la_need_guest, true_and]
  refine ⟨x, hand, rfl, h.toBase, fun _ => ?_, fun z => absurd ⟨h0, h7, hm⟩ z⟩
  walk_at "hd"
  simp only [h.y.h, lh_record, h.y.r, lk_hands, true_and]
  refine ⟨y.r, y.rc, rfl, h.y.r, ok.rc, ?_⟩
  refine vnin_ints ?_
  walk_at "hd"
  by_cases hin : hand ∈ y.rc.hands
  · obtain ⟨okr, q⟩ := q1 hin
    simp only [hin, decide_true, Bool.not_true, Bool.false_eq_true, if_false]
    simp only [h.y.h, lh_record, h.y.r, lk_drop, true_and]
    refine ⟨y.r, y.rc, hand, rfl, h.y.r, ok.rc, ?_⟩
    exact lack_of h ok okr (frg_of q)
  · simp only [hin, decide_false, Bool.not_false, if_true]
    exact q2 hin
end Hd
/-! ### hands: invitations, meetings made -/
namespace Hd
open PySem PySem.Spec PyProof.Rows L2 Cc Pl
open PySem.W (EachIs AllAlike Sortable dataLe)
local macro_rules | `(tactic| walk_at "rd") => `(tactic| try simp only [sSeq, sIf, sAsg, sRet, sRetN, sDrop, sNext, gN, gT, gsCons, gsNil, gsNames, wipeD, D.tl, dTest, dAnd, dOr, dNot, dAndV, dOrV, dNotV, dIf, dOp, dUn, dVar, dC, dCons, dNil, dCB, dCall, dTup, dLst, dLstF, dYes, blD_bl, dEq_int, dNe_int, dEq_bl, dNe_bl, dEq_str, dChain, vadd_int, vadd_rol, vadd_tup, vmul_int, vsub_int, vlt_int, vle_int, vgt_int, vge_int, vmax_int, vmin_int, vneg_int, vlen_tup, vlen_rol, vtup_rol, vtup_tup, vlist_rol, vlist_tup, vix_tup, vix_rol, vat_0, vat_1, vat_2, vat_3, vat_4, vat_5, vat_6, vsl_tup, vsl_rol, visi_non_bool, visi_non_int, visi_non_str, visi_non_tuple, visi_non_list, visi_bl_bool, visi_bl_int, visi_bl_str, visi_bl_tuple, visi_bl_list, visi_int_bool, visi_int_int, visi_int_str, visi_int_tuple, visi_int_list, visi_str_bool, visi_str_int, visi_str_str, visi_str_tuple, visi_str_list, visi_tup_bool, visi_tup_int, visi_tup_str, visi_tup_tuple, visi_tup_list, visi_key_bool, visi_key_int, visi_key_str, visi_key_tuple, visi_key_list, visi_rol_bool, visi_rol_int, visi_rol_str, visi_rol_tuple, visi_rol_list, dBM, vtyL, vapp, vlen_upd, vix_upd, vsz_0, vsz_1, vsz_2, vsz_3, vsz_4, vsz_5, vsz_6, vsz_7, vsz_8, vsz_9, dIsN, dNotN, D.isN, List.getElem?_cons_zero, List.getElem?_cons_succ, List.set_cons_zero, List.set_cons_succ, List.length_cons, List.length_nil, decide_eq_true_eq, if_true, if_false, Bool.false_eq_true, ite_true, ite_false, true_and, and_true, Bool.not_true, Bool.not_false])
local macro_rules | `(tactic| walk_at "hd") => `(tactic| try simp only [sSeq, sIf, sAsg, sRet, sRetN, sDrop, sNext, gN, gT, gsCons, gsNil, gsNames, wipeD, D.tl, dTest, dAnd, dOr, dNot, dAndV, dOrV, dNotV, dIf, dOp, dUn, dVar, dC, dCons, dNil, dCB, dCall, dTup, dLst, dLstF, dYes, blD_bl, dEq_int, dNe_int, dEq_bl, dNe_bl, dEq_str, dChain, vadd_int, vadd_rol, vadd_tup, vmul_int, vsub_int, vlt_int, vle_int, vgt_int, vge_int, vmax_int, vmin_int, vneg_int, vlen_tup, vlen_rol, vtup_rol, vtup_tup, vlist_rol, vlist_tup, vix_tup, vix_rol, vat_0, vat_1, vat_2, vat_3, vat_4, vat_5, vat_6, vsl_tup, vsl_rol, visi_non_bool, visi_non_int, visi_non_str, visi_non_tuple, visi_non_list, visi_bl_bool, visi_bl_int, visi_bl_str, visi_bl_tuple, visi_bl_list, visi_int_bool, visi_int_int, visi_int_str, visi_int_tuple, visi_int_list, visi_str_bool, visi_str_int, visi_str_str, visi_str_tuple, visi_str_list, visi_tup_bool, visi_tup_int, visi_tup_str, visi_tup_tuple, visi_tup_list, visi_key_bool, visi_key_int, visi_key_str, visi_key_tuple, visi_key_list, visi_rol_bool, visi_rol_int, visi_rol_str, visi_rol_tuple, visi_rol_list, dBM, vtyL, vapp, vlen_upd, vix_upd, vsz_0, vsz_1, vsz_2, vsz_3, vsz_4, vsz_5, vsz_6, vsz_7, vsz_8, vsz_9, dIsN, dNotN, D.isN, List.getElem?_cons_zero, List.getElem?_cons_succ, List.set_cons_zero, List.set_cons_succ, List.length_cons, List.length_nil, decide_eq_true_eq, if_true, if_false, Bool.false_eq_true, ite_true, ite_false, true_and, and_true, Bool.not_true, Bool.not_false, dFld, sFldD, gF, dMeth, dMake, dTupP, dSl, oSome, oNo, updD_same, updD_updD, lk_stamp, lk_version, lk_over, lk_plan, lk_note, lk_ones, lk_guests, lk_says, lk_grow, lk_move, lk_move_one, lk_add, lk_drop, lk_hear, lk_rows, lk_told, lk_hands, lk_say_of, lk_parts, pf_stamp, pf_version, pf_over, pf_plan, pf_note, pf_ones, pf_ones0, pf_guests, pf_says, fs_len, lt8, vsl_plan, pf_plan2, vix_plan1, vix_plan3])
theorem pure_Hosted_take (ca : CA) (k : Nat) (ds : List D) (G : DH) (R : DK) (EX : DX) (h : sd_Hosted_take ca (k + 1) ds G R EX) : b_Hosted_take ca k (endsD (frg R) EX) (startD N_Hosted_take ds) G := by
  obtain ⟨x, hand, rfl, h, ok, he, hn, q⟩ := h
  show b_Hosted_take ca k (endsD (frg R) EX) [some (.ref x.h), some (.int hand), none] G
  have hhd := h.hd
  rw [he] at hhd
  unfold b_Hosted_take
  walk_at "hd"
  simp only [dGet2]
  walk_at "hd"
  simp only [h.h, lh_heard, true_and, isDict, hhd, getOf, D.ky, Option.map_some, kvI, List.map_nil]
  have el : lookK ([] : List (Key × D)) (Sum.inl hand) = none := rfl
  rw [el]
  simp only [Option.getD_none]
  walk_at "hd"
  simp only [h.h, lh_record, h.r, lk_say_of, true_and]
  refine ⟨x.r, x.rc, hand, rfl, h.r, ok, ?_⟩
  unfold Say.d
  walk_at "hd"
  rw [if_neg (by omega)]
  walk_at "hd"
  exact frg_of q
theorem any_keys (known : List (Int × Int)) (hand : Int) : (kvI D.int known).any (fun kv => decide (kv.1 = (Sum.inl hand : Key))) = known.any fun p => decide (p.1 = hand) := by
  unfold kvI
  rw [List.any_map]
  congr 1
  funext p
  show decide ((Sum.inl p.1 : Key) = Sum.inl hand) = decide (p.1 = hand)
  exact decide_eq_decide.mpr ⟨fun z => Sum.inl.inj z, fun z => by rw [z]⟩
theorem set_known {G : DH} {x : LH} {hand : Int} {R : DK} (hk : G x.kn = some (.dK (kvI .int x.known))) (few : x.known.length < 64)
    (q : ∀ d, R d (updD G x.kn (.dK (kvI .int (knows x.known hand))))) : ∃ a kvs k, (D.ref x.kn) = .ref a ∧ G a = some (.dK kvs) ∧ (D.int hand).ky = some k ∧ kvs.length < sizeLine ∧ (match lookK kvs k with
  | some v => R v G
  | none => R (.int 0) (updD G a (.dK (putD kvs k (.int 0))))) := by
  refine ⟨x.kn, _, Sum.inl hand, rfl, hk, rfl, by unfold kvI; rw [List.length_map, sizeLine_eq]; omega, ?_⟩
  unfold knows at q
  cases hl : lookK (kvI D.int x.known) (Sum.inl hand) with
  | some v =>
    have ha : (x.known.any fun p => decide (p.1 = hand)) = true := by
      unfold kvI at hl
      rw [look_map] at hl
      cases hf : x.known.find? fun p => decide (p.1 = hand) with
      | none => rw [hf] at hl; cases hl
      | some p => exact List.any_eq_true.mpr ⟨p, List.mem_of_find?_eq_some hf, by have := List.find?_some hf; exact this⟩
    have := q v
    rw [if_pos ha, updD_id hk] at this
    exact this
  | none =>
    have ha : (x.known.any fun p => decide (p.1 = hand)) = false := by
      unfold kvI at hl
      rw [look_map] at hl
      cases hf : x.known.find? fun p => decide (p.1 = hand) with
      | some p => rw [hf] at hl; cases hl
      | none =>
        have := List.find?_eq_none.mp hf
        rw [List.any_eq_false]
        exact this
    have e : putD (kvI D.int x.known) (Sum.inl hand) (.int 0) = kvI .int (x.known ++ [(hand, 0)]) := by
      unfold putD
      rw [any_keys, ha, if_neg Bool.false_ne_true]
      unfold kvI
      rw [List.map_append]
      rfl
    have := q (.int 0)
    rw [if_neg (by rw [ha]; exact Bool.false_ne_true)] at this
    dsimp only
    rw [e]
    exact this
theorem setd_known {ca : CA} {δ : DS} {G : DH} {x : LH} {hand : Int} {i j : Nat} {R : DK} {EX : DX} (h : HostAt ca G x) (few : x.known.length < 64) (hi : δ[i]? = some (some (.ref x.h))) (hj : δ[j]? = some (some (.int hand)))
    (q : ∀ d, R d (updD G x.kn (.dK (kvI .int (knows x.known hand))))) : dSetd (dFld ca.Hosted "known" (dVar i)) (dVar j) (dC (.int 0)) δ G R EX := by
  unfold dSetd dFld dVar dC
  simp only [hi, hj, h.h, lh_known, true_and]
  exact ⟨by unfold isDict; dsimp only; rw [h.kn]; trivial, set_known h.kn few q⟩
theorem HostAt.know {ca : CA} {G : DH} {x : LH} (h : HostAt ca G x) (l : List (Int × Int)) : HostAt ca (updD G x.kn (.dK (kvI .int l))) { x with known := l } :=
  ⟨by rw [updD_ne h.nhk]; exact h.h, by rw [updD_ne (Ne.symm h.nkn)]; exact h.r, by rw [updD_ne h.ne]; exact h.hd, updD_same, h.ne⟩
theorem find_app {α : Type} {p : α → Bool} {l : List α} {y : α} (h : ∀ x ∈ l, p x = false) (hy : p y = true) : (l ++ [y]).find? p = some y := by
  rw [List.find?_append]
  rw [List.find?_eq_none.mpr fun x hx => by rw [h x hx]; exact Bool.false_ne_true]
  simp [hy]
/-- what was added says nothing yet -/
theorem sayOf_add (r : Rec) (hand : Int) (b : Option Int) (s : Say) (hn : ((r.add hand b s).says.map (·.1)).Nodup) : (r.add hand b s).sayOf hand = s := by
  have hm : ((hand, s) : HSay) ∈ (r.add hand b s).says := by
    unfold Rec.add Rec.hear byH
    exact (List.mergeSort_perm _ _).mem_iff.mpr (List.mem_append_right _ (List.mem_singleton.mpr rfl))
  unfold Rec.sayOf
  generalize (r.add hand b s).says = l at hm hn
  induction l with
  | nil => cases hm
  | cons x xs ih =>
    rw [List.find?_cons]
    obtain ⟨h1, h2⟩ := List.nodup_cons.mp hn
    rcases List.mem_cons.mp hm with e | hm
    · rw [← e]
      simp
    · have : x.1 ≠ hand := fun e => h1 (List.mem_map.mpr ⟨_, hm, e.symm⟩)
      rw [decide_eq_false this]
      exact ih hm h2
theorem pure_Hosted_add (ca : CA) (k : Nat) (ds : List D) (G : DH) (R : DK) (EX : DX) (h : sd_Hosted_add ca (k + 2) ds G R EX) : b_Hosted_add ca (k + 1) (endsD (frg R) EX) (startD N_Hosted_add ds) G := by
  obtain ⟨x, hand, b, rfl, h, ok, okr, he, hin, q⟩ := h
  show b_Hosted_add ca (k + 1) (endsD (frg R) EX) [some (.ref x.h), some (.int hand), some (oD b)] G
  unfold b_Hosted_add
  walk_at "hd"
  simp only [h.h, lh_record, h.r, lk_hands, true_and]
  refine ⟨x.r, x.rc, rfl, h.r, ok.rc, ?_⟩
  refine vnin_ints ?_
  simp only [hin, decide_false, Bool.not_false, blD_bl, if_true]
  simp only [h.h, lh_record, h.r, lk_add, true_and]
  have g1 := ok.rc.guests
  have g2 := ok.rc.says
  refine ⟨x.r, x.rc, hand, b, nothing, rfl, h.r, by omega, by omega, ?_⟩
  have h' := h.put (x.rc.add hand b nothing)
  refine setd_known h' ok.few rfl rfl fun d => ?_
  have h2 := h'.know (knows x.known hand)
  have e2 := h2.h
  dsimp only at e2 ⊢
  rw [e2]
  refine ⟨rfl, rfl, { x with rc := x.rc.add hand b nothing, known := knows x.known hand }, hand, rfl, h2, okr, he, ?_, frg_of q⟩
  rw [sayOf_add _ _ _ _ okr.nd]
  decide
theorem pure_Hand_invite (ca : CA) (ds : List D) (G : DH) (R : DK) (EX : DX) (h : sd_Hand_invite ca ds G R EX) : b_Hand_invite ca (endsD (frg R) EX) (startD N_Hand_invite ds) G := by
  obtain ⟨x, i, y, hand, rfl, h0, h7, hm, h, ok, he, ho, hl, q1, q2⟩ := h
  show b_Hand_invite ca (endsD (frg R) EX) [some (.ref x.a), some (.int i), some (.int hand), none] G
  unfold b_Hand_invite
  walk_at "hd"
  simp only [h.a, la_hosted, true_and]
  refine ⟨x, i, y, rfl, h, ho, hl, ?_⟩
  simp only [h.a, la_need_guest, true_and]
  refine ⟨x, hand, rfl, h.toBase, fun _ => ?_, fun z => absurd ⟨h0, h7, hm⟩ z⟩
  walk_at "hd"
  simp only [h.y.h, lh_record, h.y.r, lk_hands, true_and]
  refine ⟨y.r, y.rc, rfl, h.y.r, ok.rc, ?_⟩
  refine vin_ints ?_
  walk_at "hd"
  by_cases hin : hand ∈ y.rc.hands
  · simp only [hin, decide_true, if_true]
    exact q2 hin
  · obtain ⟨okr, q⟩ := q1 hin
    simp only [hin, decide_false, Bool.false_eq_true, if_false]
    simp only [h.y.h, lh_add, true_and]
    refine ⟨y, hand, none, rfl, h.y, ok, okr.rc, he, hin, ?_⟩
    -- the hand's own cells stand
    have h1 := h.y.put (y.rc.add hand none nothing)
    have h2 := h1.know (knows y.known hand)
    have nk : ∀ {b c}, G b = some c → c ≠ .dK (kvI .int y.known) → c ≠ .ins ca.Record y.rc.fs → updD (putR ca G y.r (y.rc.add hand none nothing)) y.kn (.dK (kvI .int (knows y.known hand))) b = some c := fun {b c} hb c1 c2 => by
      rw [updD_ne (neDD hb h.y.kn c1), putR, updD_ne (neDD hb h.y.r c2)]
      exact hb
    have ha := nk h.a (fun z => by cases z) fun z => absurd (show (3 : Nat) = 8 from congrArg insLen z) (by decide)
    have hoo := nk h.o (fun z => by cases z) (fun z => by cases z)
    have hcc := nk h.c (fun z => by cases z) (fun z => by cases z)
    have hi : i < x.own.length := (List.getElem?_eq_some_iff.mp h.i).1
    dsimp only
    rw [ha]
    refine ⟨rfl, rfl, { x with own := x.own.set i (invited y hand) }, i, invited y hand, rfl, { a := ha, o := ?_, c := hcc, i := by rw [List.getElem?_set_self hi], y := h2 }, okr, frg_of q⟩
    show _ = some (C.lst ((x.own.set i (invited y hand)).map fun z => D.ref z.h))
    rw [set_refs (y' := invited y hand) h.i rfl]
    exact hoo
end Hd
/-! ### hands: makings -/
namespace Hd
open PySem PySem.Spec PyProof.Rows L2 Cc Pl
open PySem.W (EachIs AllAlike Sortable dataLe)
local macro_rules | `(tactic| walk_at "rd") => `(tactic| try simp only [sSeq, sIf, sAsg, sRet, sRetN, sDrop, sNext, gN, gT, gsCons, gsNil, gsNames, wipeD, D.tl, dTest, dAnd, dOr, dNot, dAndV, dOrV, dNotV, dIf, dOp, dUn, dVar, dC, dCons, dNil, dCB, dCall, dTup, dLst, dLstF, dYes, blD_bl, dEq_int, dNe_int, dEq_bl, dNe_bl, dEq_str, dChain, vadd_int, vadd_rol, vadd_tup, vmul_int, vsub_int, vlt_int, vle_int, vgt_int, vge_int, vmax_int, vmin_int, vneg_int, vlen_tup, vlen_rol, vtup_rol, vtup_tup, vlist_rol, vlist_tup, vix_tup, vix_rol, vat_0, vat_1, vat_2, vat_3, vat_4, vat_5, vat_6, vsl_tup, vsl_rol, visi_non_bool, visi_non_int, visi_non_str, visi_non_tuple, visi_non_list, visi_bl_bool, visi_bl_int, visi_bl_str, visi_bl_tuple, visi_bl_list, visi_int_bool, visi_int_int, visi_int_str, visi_int_tuple, visi_int_list, visi_str_bool, visi_str_int, visi_str_str, visi_str_tuple, visi_str_list, visi_tup_bool, visi_tup_int, visi_tup_str, visi_tup_tuple, visi_tup_list, visi_key_bool, visi_key_int, visi_key_str, visi_key_tuple, visi_key_list, visi_rol_bool, visi_rol_int, visi_rol_str, visi_rol_tuple, visi_rol_list, dBM, vtyL, vapp, vlen_upd, vix_upd, vsz_0, vsz_1, vsz_2, vsz_3, vsz_4, vsz_5, vsz_6, vsz_7, vsz_8, vsz_9, dIsN, dNotN, D.isN, List.getElem?_cons_zero, List.getElem?_cons_succ, List.set_cons_zero, List.set_cons_succ, List.length_cons, List.length_nil, decide_eq_true_eq, if_true, if_false, Bool.false_eq_true, ite_true, ite_false, true_and, and_true, Bool.not_true, Bool.not_false])
local macro_rules | `(tactic| walk_at "hd") => `(tactic| try simp only [sSeq, sIf, sAsg, sRet, sRetN, sDrop, sNext, gN, gT, gsCons, gsNil, gsNames, wipeD, D.tl, dTest, dAnd, dOr, dNot, dAndV, dOrV, dNotV, dIf, dOp, dUn, dVar, dC, dCons, dNil, dCB, dCall, dTup, dLst, dLstF, dYes, blD_bl, dEq_int, dNe_int, dEq_bl, dNe_bl, dEq_str, dChain, vadd_int, vadd_rol, vadd_tup, vmul_int, vsub_int, vlt_int, vle_int, vgt_int, vge_int, vmax_int, vmin_int, vneg_int, vlen_tup, vlen_rol, vtup_rol, vtup_tup, vlist_rol, vlist_tup, vix_tup, vix_rol, vat_0, vat_1, vat_2, vat_3, vat_4, vat_5, vat_6, vsl_tup, vsl_rol, visi_non_bool, visi_non_int, visi_non_str, visi_non_tuple, visi_non_list, visi_bl_bool, visi_bl_int, visi_bl_str, visi_bl_tuple, visi_bl_list, visi_int_bool, visi_int_int, visi_int_str, visi_int_tuple, visi_int_list, visi_str_bool, visi_str_int, visi_str_str, visi_str_tuple, visi_str_list, visi_tup_bool, visi_tup_int, visi_tup_str, visi_tup_tuple, visi_tup_list, visi_key_bool, visi_key_int, visi_key_str, visi_key_tuple, visi_key_list, visi_rol_bool, visi_rol_int, visi_rol_str, visi_rol_tuple, visi_rol_list, dBM, vtyL, vapp, vlen_upd, vix_upd, vsz_0, vsz_1, vsz_2, vsz_3, vsz_4, vsz_5, vsz_6, vsz_7, vsz_8, vsz_9, dIsN, dNotN, D.isN, List.getElem?_cons_zero, List.getElem?_cons_succ, List.set_cons_zero, List.set_cons_succ, List.length_cons, List.length_nil, decide_eq_true_eq, if_true, if_false, Bool.false_eq_true, ite_true, ite_false, true_and, and_true, Bool.not_true, Bool.not_false, dFld, sFldD, gF, dMeth, dMake, dTupP, dSl, oSome, oNo, updD_same, updD_updD, lk_stamp, lk_version, lk_over, lk_plan, lk_note, lk_ones, lk_guests, lk_says, lk_grow, lk_move, lk_move_one, lk_add, lk_drop, lk_hear, lk_rows, lk_told, lk_hands, lk_say_of, lk_parts, pf_stamp, pf_version, pf_over, pf_plan, pf_note, pf_ones, pf_ones0, pf_guests, pf_says, fs_len, lt8, vsl_plan, pf_plan2, vix_plan1, vix_plan3])
theorem upd3 {G : DH} {h hd kn : Addr} {a1 a2 a3 c1 c2 : C} : updD (updD (updD (updD (updD G h a1) hd c1) h a2) kn c2) h a3 = updD (updD (updD G hd c1) kn c2) h a3 := by
  funext b
  unfold updD
  by_cases b1 : b = h
  · simp [b1]
  · simp [b1]
theorem keyed_oft (p : Int × Int) : keyed (.tup [.int p.1, .int p.2]) = some (Sum.inl p.1, .int p.2) := rfl
theorem pure_Hosted__init_ (ca : CA) (ds : List D) (G : DH) (R : DK) (EX : DX) (h : sd_Hosted__init_ ca ds G R EX) : b_Hosted__init_ ca (endsD (frg R) EX) (startD N_Hosted__init_ ds) G := by
  obtain ⟨h, r, rc, rfl, hh, hr, ok, nd, q⟩ := h
  unfold RecAt at hr
  show b_Hosted__init_ ca (endsD (frg R) EX) [some (.ref h), some (.ref r), none] G
  have nrh : r ≠ h := neDD hr hh fun z => absurd (show (8 : Nat) = 0 from congrArg insLen z) (by decide)
  unfold b_Hosted__init_
  walk_at "hd"
  simp only [hh, true_and]
  refine ⟨(by decide : (0 : Nat) < 1000), fun hd hhd => ?_⟩
  obtain ⟨hhd0, nhd⟩ := none_up hhd
  simp only [updD_ne (Ne.symm nhd), updD_same, true_and]
  refine ⟨(by decide : (1 : Nat) < 1000), ?_⟩
  have hr3 : updD (updD (updD G h (.ins ca.Hosted (putFD "record" (.ref r) []))) hd (.dK [])) h (.ins ca.Hosted (putFD "heard" (.ref hd) (putFD "record" (.ref r) []))) r = some (.ins ca.Record rc.fs) := by
    rw [updD_ne nrh, updD_ne (fun z => by subst z; rw [hr] at hhd0; cases hhd0), updD_ne nrh]
    exact hr
  simp only [dLcF, iSq]
  walk_at "hd"
  simp only [hr3, lk_hands, true_and]
  refine ⟨r, rc, rfl, hr3, ok, ?_⟩
  dsimp only
  have hlen : rc.hands.length ≤ 100 := by unfold Rec.hands; rw [List.length_map]; exact ok.guests
  refine goLcF_map (ok := fun _ => True) (f := D.int) (fun x : Int => some (.tup [.int x, .int 0])) trivial (fun x C1 C2 hx => ?_) rc.hands [] (by simp; exact sz_small (by omega)) ?_
  · walk_at "hd"
    exact hx
  · rw [List.filterMap_eq_map', List.nil_append]
    have ekv : mergeD [] ((rc.hands.map fun x => ((x, 0) : Int × Int)).map fun p => ((Sum.inl p.1 : Key), D.int p.2)) = kvI .int (rc.hands.map fun x => (x, 0)) := by
      rw [mergeD_app _ [] (by
        rw [List.nil_append]
        refine nd_keys (f := D.int) ?_
        rw [List.map_map]
        exact (show (rc.hands.map fun x => x).Nodup from by rw [List.map_id']; exact nd)), List.nil_append]
      rfl
    refine ⟨rc.hands.map fun x => .tup [.int x, .int 0], (rc.hands.map fun x => ((x, 0) : Int × Int)).map fun p => (Sum.inl p.1, .int p.2), rfl, ?_, fun kn hkn => ?_⟩
    · rw [List.map_map, List.map_map, List.map_map]
      rfl
    · obtain ⟨hkn1, n1⟩ := none_up hkn
      obtain ⟨hkn2, n2⟩ := none_up hkn1
      obtain ⟨hkn3, n3⟩ := none_up hkn2
      rw [ekv]
      simp only [updD_ne (Ne.symm n1), updD_same, true_and]
      refine ⟨(by decide : (2 : Nat) < 1000), ?_⟩
      rw [upd3]
      exact frg_of (q hd kn hhd0 hkn3 (Ne.symm n2))
theorem pure_Hand__init_ (ca : CA) (ds : List D) (G : DH) (R : DK) (EX : DX) (h : sd_Hand__init_ ca ds G R EX) : b_Hand__init_ ca (endsD (frg R) EX) (startD N_Hand__init_ ds) G := by
  obtain ⟨a, n, rfl, h0, h7, ha, q⟩ := h
  show b_Hand__init_ ca (endsD (frg R) EX) [some (.ref a), some (.int n)] G
  unfold b_Hand__init_
  walk_at "hd"
  refine ⟨n, rfl, fun _ => ?_, fun z => absurd ⟨h0, h7⟩ z⟩
  simp only [ha, updD_same, updD_updD, true_and]
  refine ⟨(by decide : (0 : Nat) < 1000), fun o ho => ?_⟩
  obtain ⟨ho0, no⟩ := none_up ho
  simp only [updD_ne (Ne.symm no), updD_same, true_and]
  refine ⟨(by decide : (1 : Nat) < 1000), ?_⟩
  simp only [dNewT]
  intro c hc
  obtain ⟨hc1, n1⟩ := none_up hc
  obtain ⟨hc2, n2⟩ := none_up hc1
  obtain ⟨hc3, n3⟩ := none_up hc2
  simp only [updD_ne (Ne.symm n1), updD_same, true_and]
  refine ⟨(by decide : (2 : Nat) < 1000), ?_⟩
  rw [upd3]
  exact frg_of (q o c ho0 hc3 (Ne.symm n2))
end Hd
/-! ### hands: a call -/
namespace Hd
open PySem PySem.Spec PyProof.Rows L2 Cc Pl
open PySem.W (EachIs AllAlike Sortable dataLe)
local macro_rules | `(tactic| walk_at "rd") => `(tactic| try simp only [sSeq, sIf, sAsg, sRet, sRetN, sDrop, sNext, gN, gT, gsCons, gsNil, gsNames, wipeD, D.tl, dTest, dAnd, dOr, dNot, dAndV, dOrV, dNotV, dIf, dOp, dUn, dVar, dC, dCons, dNil, dCB, dCall, dTup, dLst, dLstF, dYes, blD_bl, dEq_int, dNe_int, dEq_bl, dNe_bl, dEq_str, dChain, vadd_int, vadd_rol, vadd_tup, vmul_int, vsub_int, vlt_int, vle_int, vgt_int, vge_int, vmax_int, vmin_int, vneg_int, vlen_tup, vlen_rol, vtup_rol, vtup_tup, vlist_rol, vlist_tup, vix_tup, vix_rol, vat_0, vat_1, vat_2, vat_3, vat_4, vat_5, vat_6, vsl_tup, vsl_rol, visi_non_bool, visi_non_int, visi_non_str, visi_non_tuple, visi_non_list, visi_bl_bool, visi_bl_int, visi_bl_str, visi_bl_tuple, visi_bl_list, visi_int_bool, visi_int_int, visi_int_str, visi_int_tuple, visi_int_list, visi_str_bool, visi_str_int, visi_str_str, visi_str_tuple, visi_str_list, visi_tup_bool, visi_tup_int, visi_tup_str, visi_tup_tuple, visi_tup_list, visi_key_bool, visi_key_int, visi_key_str, visi_key_tuple, visi_key_list, visi_rol_bool, visi_rol_int, visi_rol_str, visi_rol_tuple, visi_rol_list, dBM, vtyL, vapp, vlen_upd, vix_upd, vsz_0, vsz_1, vsz_2, vsz_3, vsz_4, vsz_5, vsz_6, vsz_7, vsz_8, vsz_9, dIsN, dNotN, D.isN, List.getElem?_cons_zero, List.getElem?_cons_succ, List.set_cons_zero, List.set_cons_succ, List.length_cons, List.length_nil, decide_eq_true_eq, if_true, if_false, Bool.false_eq_true, ite_true, ite_false, true_and, and_true, Bool.not_true, Bool.not_false])
local macro_rules | `(tactic| walk_at "hd") => `(tactic| try simp only [sSeq, sIf, sAsg, sRet, sRetN, sDrop, sNext, gN, gT, gsCons, gsNil, gsNames, wipeD, D.tl, dTest, dAnd, dOr, dNot, dAndV, dOrV, dNotV, dIf, dOp, dUn, dVar, dC, dCons, dNil, dCB, dCall, dTup, dLst, dLstF, dYes, blD_bl, dEq_int, dNe_int, dEq_bl, dNe_bl, dEq_str, dChain, vadd_int, vadd_rol, vadd_tup, vmul_int, vsub_int, vlt_int, vle_int, vgt_int, vge_int, vmax_int, vmin_int, vneg_int, vlen_tup, vlen_rol, vtup_rol, vtup_tup, vlist_rol, vlist_tup, vix_tup, vix_rol, vat_0, vat_1, vat_2, vat_3, vat_4, vat_5, vat_6, vsl_tup, vsl_rol, visi_non_bool, visi_non_int, visi_non_str, visi_non_tuple, visi_non_list, visi_bl_bool, visi_bl_int, visi_bl_str, visi_bl_tuple, visi_bl_list, visi_int_bool, visi_int_int, visi_int_str, visi_int_tuple, visi_int_list, visi_str_bool, visi_str_int, visi_str_str, visi_str_tuple, visi_str_list, visi_tup_bool, visi_tup_int, visi_tup_str, visi_tup_tuple, visi_tup_list, visi_key_bool, visi_key_int, visi_key_str, visi_key_tuple, visi_key_list, visi_rol_bool, visi_rol_int, visi_rol_str, visi_rol_tuple, visi_rol_list, dBM, vtyL, vapp, vlen_upd, vix_upd, vsz_0, vsz_1, vsz_2, vsz_3, vsz_4, vsz_5, vsz_6, vsz_7, vsz_8, vsz_9, dIsN, dNotN, D.isN, List.getElem?_cons_zero, List.getElem?_cons_succ, List.set_cons_zero, List.set_cons_succ, List.length_cons, List.length_nil, decide_eq_true_eq, if_true, if_false, Bool.false_eq_true, ite_true, ite_false, true_and, and_true, Bool.not_true, Bool.not_false, dFld, sFldD, gF, dMeth, dMake, dTupP, dSl, oSome, oNo, updD_same, updD_updD, lk_stamp, lk_version, lk_over, lk_plan, lk_note, lk_ones, lk_guests, lk_says, lk_grow, lk_move, lk_move_one, lk_add, lk_drop, lk_hear, lk_rows, lk_told, lk_hands, lk_say_of, lk_parts, pf_stamp, pf_version, pf_over, pf_plan, pf_note, pf_ones, pf_ones0, pf_guests, pf_says, fs_len, lt8, vsl_plan, pf_plan2, vix_plan1, vix_plan3])
theorem upd4 {G : DH} {h hd kn : Addr} {a1 a3 c1 c2 : C} : updD (updD (updD (updD G h a1) hd c1) kn c2) h a3 = updD (updD (updD G hd c1) kn c2) h a3 := by
  funext b
  unfold updD
  by_cases b1 : b = h
  · simp [b1]
  · simp [b1]
theorem first_ok {p : Plan} {gs : List Int} (hp : p.Ok) (hl : gs.length ≤ 6) : (first p gs).Ok :=
  ⟨hp, Nat.zero_le _, by unfold first sortI; rw [List.length_map, List.length_mergeSort]; omega, Nat.zero_le _, List.nodup_nil, fun s hs => by cases hs⟩
theorem first_hands (p : Plan) (gs : List Int) : (first p gs).hands = sortI gs := by
  unfold Rec.hands first
  rw [List.map_map]
  exact List.map_id' _
theorem first_nd {p : Plan} {gs : List Int} (h : gs.Nodup) : (first p gs).hands.Nodup := by
  rw [first_hands]
  exact (List.mergeSort_perm _ _).nodup_iff.mpr h
theorem pure_Hand_call (ca : CA) (ds : List D) (G : DH) (R : DK) (EX : DX) (h : sd_Hand_call ca ds G R EX) : b_Hand_call ca (endsD (frg R) EX) (startD N_Hand_call ds) G := by
  obtain ⟨x, p, gs, rfl, hb, hp, nd, hl, hg, hown, q⟩ := h
  show b_Hand_call ca (endsD (frg R) EX) [some (.ref x.a), some p.d, some (.tup (gs.map .int)), none] G
  unfold b_Hand_call
  walk_at "hd"
  refine ⟨p.ds, rfl, fun y hy => ?_, fun _ => ?_, fun z => by rw [isPlan_ok hp] at z; cases z⟩
  · unfold Plan.ds at hy
    simp only [List.mem_cons, List.not_mem_nil, or_false] at hy
    rcases hy with rfl | rfl | rfl | rfl <;> exact .int _
  simp only [sFor, iSq]
  walk_at "hd"
  refine goFor_map (f := D.int) (fun xs δ G' => (∃ o3 : Option D, δ = [some (.ref x.a), some p.d, some (.tup (gs.map .int)), o3]) ∧ G' = G ∧ ∀ y ∈ xs, y ∈ gs)
    (fun _ _ _ _ => trivial) (fun δ G' ⟨⟨o3, e⟩, eG, _⟩ => ?_) (fun y xs δ G' N ⟨⟨o3, e⟩, eG, hy⟩ hN => ?_) gs _ _ ⟨⟨_, rfl⟩, rfl, fun _ h => h⟩
  · subst e eG
    walk_at "hd"
    rw [List.length_map]
    rw [if_neg (by omega)]
    simp only [dLenSet]
    walk_at "hd"
    refine ⟨gs, rfl, by omega, fun c hc => ?_⟩
    rw [hc.of_nodup nd]
    walk_at "hd"
    try rw [List.length_map]
    rw [if_neg (by omega)]
    walk_at "hd"
    simp only [hb.a, la_own, true_and]
    refine ⟨by unfold tyR; dsimp only; rw [hb.o], ?_⟩
    refine ⟨p, gs, rfl, by omega, fun r hr => ?_⟩
    intro h hh
    obtain ⟨hh0, nhr⟩ := none_up hh
    have okf := first_ok (p := p) hp hl
    refine ⟨h, r, first p gs, rfl, updD_same, by unfold RecAt; rw [updD_ne (Ne.symm nhr)]; exact updD_same, okf, first_nd nd, fun hd kn hhd hkn ndk => ?_⟩
    obtain ⟨hhd1, nhdh⟩ := none_up hhd
    obtain ⟨hhd0, nhdr⟩ := none_up hhd1
    obtain ⟨hkn1, nknh⟩ := none_up hkn
    obtain ⟨hkn0, nknr⟩ := none_up hkn1
    have q := q h r hd kn hh0 hr hhd0 hkn0 nhr (Ne.symm nhdh) (Ne.symm nknh) (Ne.symm nhdr) (Ne.symm nknr) ndk
    have eH : updD (updD (updD (updD (putR ca G' r (first p gs)) h (.ins ca.Hosted [])) hd (.dK [])) kn (.dK (kvI .int ((first p gs).hands.map fun x => (x, 0))))) h (.ins ca.Hosted [("record", .ref r), ("heard", .ref hd), ("known", .ref kn)]) = putH ca G' (called h r hd kn p gs) := upd4
    dsimp only
    rw [eH]
    -- what stood still stands
    have keep : ∀ {b c}, G' b = some c → putH ca G' (called h r hd kn p gs) b = some c := fun {b c} hbc => by
      have n1 : b ≠ h := neD hbc hh0
      have n2 : b ≠ kn := neD hbc hkn0
      have n3 : b ≠ hd := neD hbc hhd0
      have n4 : b ≠ r := neD hbc hr
      unfold putH called
      rw [updD_ne n1, updD_ne n2, updD_ne n3, updD_ne n4]
      exact hbc
    have ho := keep hb.o
    simp only [mAppend]
    refine ⟨_, ho, by rw [List.length_map, sizeLine_eq]; omega, ?_⟩
    generalize eL : (x.own.map fun y => D.ref y.h) ++ [D.ref h] = L at q ⊢
    have hLl : L.length = x.own.length + 1 := by rw [← eL, List.length_append, List.length_map]; rfl
    have nao : x.a ≠ x.o := neDD hb.a hb.o fun z => by cases z
    have nco : x.c ≠ x.o := neDD hb.c hb.o fun z => by cases z
    have ha2 : updD (putH ca G' (called h r hd kn p gs)) x.o (.lst L) x.a = some (.ins ca.Hand x.fs) := by rw [updD_ne nao]; exact keep hb.a
    simp only [ha2, la_own, la_lacking, true_and]
    have hlen : ∀ R : DK, R (.int ((x.own.length + 1 : Nat) : Int)) (updD (putH ca G' (called h r hd kn p gs)) x.o (.lst L)) → dLen [.ref x.o] (updD (putH ca G' (called h r hd kn p gs)) x.o (.lst L)) R := fun R q => by
      unfold dLen lenOf
      dsimp only
      rw [updD_same]
      dsimp only
      rw [hLl]
      exact q
    refine hlen _ ?_
    walk_at "hd"
    have e1 : ((x.own.length + 1 : Nat) : Int) - 1 = (x.own.length : Int) := by omega
    rw [e1]
    simp only [ha2, la_own, la_lacking, true_and]
    refine hlen _ ?_
    walk_at "hd"
    rw [e1]
    have nh : ∀ {b}, b ≠ x.o → updD (putH ca G' (called h r hd kn p gs)) x.o (.lst L) b = putH ca G' (called h r hd kn p gs) b := fun n => updD_ne n
    have noh : x.o ≠ h := neD hb.o hh0
    have nor : x.o ≠ r := neD hb.o hr
    have nohd : x.o ≠ hd := neD hb.o hhd0
    have nokn : x.o ≠ kn := neD hb.o hkn0
    refine ⟨{ x with own := x.own ++ [called h r hd kn p gs] }, x.own.length, called h r hd kn p gs, rfl, { a := ha2, o := ?_, c := ?_, i := by simp, y := ⟨?_, ?_, ?_, ?_, ndk⟩ }, ⟨okf, ?_, ?_⟩, frg_of q⟩
    · rw [updD_same, ← eL, List.map_append]
      rfl
    · rw [nh nco]
      exact keep hb.c
    · show updD _ x.o _ h = _
      rw [nh (Ne.symm noh)]
      exact updD_same
    · show updD _ x.o _ r = _
      rw [nh (Ne.symm nor)]
      unfold putH called
      dsimp only
      rw [updD_ne (Ne.symm nhr), updD_ne (Ne.symm nknr), updD_ne (Ne.symm nhdr), updD_same]
    · show updD _ x.o _ hd = _
      rw [nh (Ne.symm nohd)]
      unfold putH called
      dsimp only
      rw [updD_ne nhdh, updD_ne ndk, updD_same]
    · show updD _ x.o _ kn = _
      rw [nh (Ne.symm nokn)]
      unfold putH called
      dsimp only
      rw [updD_ne nknh, updD_same]
    · show (((first p gs).hands.map fun z => ((z, 0) : Int × Int)).map (·.1)).Nodup
      rw [List.map_map]
      exact (show ((first p gs).hands.map fun x => x).Nodup from by rw [List.map_id']; exact first_nd nd)
    · show ((first p gs).hands.map fun z => ((z, 0) : Int × Int)).length < 64
      rw [List.length_map, first_hands]
      unfold sortI
      rw [List.length_mergeSort]
      omega
  · subst e eG
    walk_at "hd"
    simp only [hb.a, la_need_guest, true_and]
    refine ⟨x, y, rfl, hb, fun _ => ?_, fun z => absurd (hg y (hy y List.mem_cons_self)) z⟩
    exact hN _ _ ⟨⟨_, rfl⟩, rfl, fun z hz => hy z (List.mem_cons_of_mem _ hz)⟩
end Hd
/-! ### hands: promises, lists told as lists -/
namespace Hd
open PySem PySem.Spec PyProof.Rows L2 Cc Pl
open PySem.W (EachIs AllAlike Sortable dataLe)
def Told.dr (t : Told) (q p : Addr) : D := .tup [.int t.host, .int t.number, .int t.version, .str t.note, .int t.long, .ref q, .ref p]
/-- a row of a book, its two lists new -/
def TAt (G0 G : DH) (d : D) (t : Told) : Prop := ∃ q p, d = t.dr q p ∧ G0 q = none ∧ G0 p = none ∧ G q = some (.lst (t.rows.map Pl.Row.d)) ∧ G p = some (.lst (t.guests.map ToldG.d))
def sd_Record_rows' (ca : CA) : SpD := fun ds G R _ => ∃ a r, ds = [.ref a] ∧ RecAt ca G a r ∧ r.Ok ∧ ∀ q, G q = none → R (.ref q) (updD G q (.lst ((rowsOf r.plan r.ones).map Pl.Row.d)))
def sd_Record_told' (ca : CA) : SpD := fun ds G R _ => ∃ a r host number me mine, ds = [.ref a, .int host, .int number, oD me, mine.d] ∧ RecAt ca G a r ∧ r.Ok ∧ mine.Ok ∧
  ∀ p q, G p = none → G q = none → q ≠ p → R ((r.told host number me mine).dr q p) (updD (updD G p (.lst ((r.told host number me mine).guests.map ToldG.d))) q (.lst ((r.told host number me mine).rows.map Pl.Row.d)))
/-- the hand's own meetings, as its book tells them -/
def ownTold (me : Int) : Nat → List LH → List Told
  | _, [] => []
  | i, y :: ys => if y.rc.over = true then ownTold me (i + 1) ys else y.rc.told me i none nothing :: ownTold me (i + 1) ys
def sd_Hand_book' (ca : CA) : SpD := fun ds G R _ => ∃ x : LHand, ds = [.ref x.a] ∧ Base ca G x ∧ x.calls = [] ∧ (∀ y ∈ x.own, HostAt ca G y ∧ y.rc.Ok) ∧ x.own.length ≤ 1000 ∧
  ∀ G' b rows, Sub G G' → G b = none → G' b = some (.lst rows) → EachIs (TAt G G') rows (ownTold x.me 0 x.own) → R (.ref b) G'
end Hd
/-! ### hands: readings, lists told as lists -/
namespace Hd
open PySem PySem.Spec PyProof.Rows L2 Cc Pl
def b_Record_rows' (ca : CA) : DSt :=
  (sRet (dCall Pl.sd_rows_of' (dCons (dFld ca.Record "plan" (dVar 0)) (dCons (dFld ca.Record "ones" (dVar 0)) dNil))))
def b_Record_told' (ca : CA) : DSt :=
  (sSeq (sAsg (dLst dNil) (gN 5))
  (sSeq (sFor (iSq (dFld ca.Record "guests" (dVar 0))) (gT 2 (gsCons (gN 6) (gsCons (gN 7) gsNil))) (sSeq (sAsg (dIf (dTest (dOp dEq (dVar 6) (dVar 3))) (dVar 4) (dMeth ca.Record "say_of" (sd_Record_say_of ca) (dVar 0) (dCons (dVar 6) dNil))) (gN 8))
  (sDrop (dBM "list" mAppend (dVar 5) (dCons (dTup (dCons (dVar 6) (dCons (dVar 7) (dCons (dCall sd_words_of (dCons (dVar 8) (dCons (dFld ca.Record "version" (dVar 0)) (dCons (dFld ca.Record "ones" (dVar 0)) (dCons (dOp dIx (dFld ca.Record "plan" (dVar 0)) (dC (.int 3))) dNil))))) dNil)))) dNil)))))
  (sRet (dTup (dCons (dVar 1) (dCons (dVar 2) (dCons (dFld ca.Record "version" (dVar 0)) (dCons (dFld ca.Record "note" (dVar 0)) (dCons (dOp dIx (dFld ca.Record "plan" (dVar 0)) (dC (.int 1))) (dCons (dMeth ca.Record "rows" (sd_Record_rows' ca) (dVar 0) dNil) (dCons (dVar 5) dNil)))))))))))
def b_Hand_book' (ca : CA) : DSt :=
  (sSeq (sAsg (dLst dNil) (gN 1))
  (sSeq (sFor (iEnumD (dFld ca.Hand "own" (dVar 0))) (gT 2 (gsCons (gN 2) (gsCons (gN 3) gsNil))) (sIf (dNot (dTest (dFld ca.Record "over" (dFld ca.Hosted "record" (dVar 3))))) (sDrop (dBM "list" mAppend (dVar 1) (dCons (dMeth ca.Record "told" (sd_Record_told' ca) (dFld ca.Hosted "record" (dVar 3)) (dCons (dFld ca.Hand "me" (dVar 0)) (dCons (dVar 2) (dCons (dC .non) (dCons (dC (.tup [(.int 0), .non, (.tup []), .non])) dNil))))) dNil))) sNext))
  (sSeq (sFor (iSq (dCB dSortDT (dCons (dFld ca.Hand "calls" (dVar 0)) dNil))) (gT 2 (gsCons (gN 4) (gsCons (gN 2) gsNil))) (sSeq (sAsg (dOp dIx (dFld ca.Hand "calls" (dVar 0)) (dKey (dCons (dVar 4) (dCons (dVar 2) dNil)))) (gN 5))
  (sIf (dAnd (dTest (dOp dNotN (dFld ca.Record "record" (dVar 5)) (dC .non))) (dAnd (dNot (dTest (dFld ca.Record "over" (dFld ca.Record "record" (dVar 5))))) (dTest (dOp dIn (dFld ca.Hand "me" (dVar 0)) (dMeth ca.Record "hands" (sd_Record_hands ca) (dFld ca.Record "record" (dVar 5)) dNil))))) (sDrop (dBM "list" mAppend (dVar 1) (dCons (dMeth ca.Record "told" (sd_Record_told' ca) (dFld ca.Record "record" (dVar 5)) (dCons (dVar 4) (dCons (dVar 2) (dCons (dFld ca.Hand "me" (dVar 0)) (dCons (dFld ca.Record "say" (dVar 5)) dNil))))) dNil))) sNext)))
  (sRet (dSortG encII kII (dVar 1))))))
end Hd
/-! ### hands: the book, its lists told as lists -/
namespace Hd
open PySem PySem.Spec PyProof.Rows L2 Cc Pl
open PySem.W (EachIs AllAlike Sortable dataLe)
local macro_rules | `(tactic| walk_at "rd") => `(tactic| try simp only [sSeq, sIf, sAsg, sRet, sRetN, sDrop, sNext, gN, gT, gsCons, gsNil, gsNames, wipeD, D.tl, dTest, dAnd, dOr, dNot, dAndV, dOrV, dNotV, dIf, dOp, dUn, dVar, dC, dCons, dNil, dCB, dCall, dTup, dLst, dLstF, dYes, blD_bl, dEq_int, dNe_int, dEq_bl, dNe_bl, dEq_str, dChain, vadd_int, vadd_rol, vadd_tup, vmul_int, vsub_int, vlt_int, vle_int, vgt_int, vge_int, vmax_int, vmin_int, vneg_int, vlen_tup, vlen_rol, vtup_rol, vtup_tup, vlist_rol, vlist_tup, vix_tup, vix_rol, vat_0, vat_1, vat_2, vat_3, vat_4, vat_5, vat_6, vsl_tup, vsl_rol, visi_non_bool, visi_non_int, visi_non_str, visi_non_tuple, visi_non_list, visi_bl_bool, visi_bl_int, visi_bl_str, visi_bl_tuple, visi_bl_list, visi_int_bool, visi_int_int, visi_int_str, visi_int_tuple, visi_int_list, visi_str_bool, visi_str_int, visi_str_str, visi_str_tuple, visi_str_list, visi_tup_bool, visi_tup_int, visi_tup_str, visi_tup_tuple, visi_tup_list, visi_key_bool, visi_key_int, visi_key_str, visi_key_tuple, visi_key_list, visi_rol_bool, visi_rol_int, visi_rol_str, visi_rol_tuple, visi_rol_list, dBM, vtyL, vapp, vlen_upd, vix_upd, vsz_0, vsz_1, vsz_2, vsz_3, vsz_4, vsz_5, vsz_6, vsz_7, vsz_8, vsz_9, dIsN, dNotN, D.isN, List.getElem?_cons_zero, List.getElem?_cons_succ, List.set_cons_zero, List.set_cons_succ, List.length_cons, List.length_nil, decide_eq_true_eq, if_true, if_false, Bool.false_eq_true, ite_true, ite_false, true_and, and_true, Bool.not_true, Bool.not_false])
local macro_rules | `(tactic| walk_at "hd") => `(tactic| try simp only [sSeq, sIf, sAsg, sRet, sRetN, sDrop, sNext, gN, gT, gsCons, gsNil, gsNames, wipeD, D.tl, dTest, dAnd, dOr, dNot, dAndV, dOrV, dNotV, dIf, dOp, dUn, dVar, dC, dCons, dNil, dCB, dCall, dTup, dLst, dLstF, dYes, blD_bl, dEq_int, dNe_int, dEq_bl, dNe_bl, dEq_str, dChain, vadd_int, vadd_rol, vadd_tup, vmul_int, vsub_int, vlt_int, vle_int, vgt_int, vge_int, vmax_int, vmin_int, vneg_int, vlen_tup, vlen_rol, vtup_rol, vtup_tup, vlist_rol, vlist_tup, vix_tup, vix_rol, vat_0, vat_1, vat_2, vat_3, vat_4, vat_5, vat_6, vsl_tup, vsl_rol, visi_non_bool, visi_non_int, visi_non_str, visi_non_tuple, visi_non_list, visi_bl_bool, visi_bl_int, visi_bl_str, visi_bl_tuple, visi_bl_list, visi_int_bool, visi_int_int, visi_int_str, visi_int_tuple, visi_int_list, visi_str_bool, visi_str_int, visi_str_str, visi_str_tuple, visi_str_list, visi_tup_bool, visi_tup_int, visi_tup_str, visi_tup_tuple, visi_tup_list, visi_key_bool, visi_key_int, visi_key_str, visi_key_tuple, visi_key_list, visi_rol_bool, visi_rol_int, visi_rol_str, visi_rol_tuple, visi_rol_list, dBM, vtyL, vapp, vlen_upd, vix_upd, vsz_0, vsz_1, vsz_2, vsz_3, vsz_4, vsz_5, vsz_6, vsz_7, vsz_8, vsz_9, dIsN, dNotN, D.isN, List.getElem?_cons_zero, List.getElem?_cons_succ, List.set_cons_zero, List.set_cons_succ, List.length_cons, List.length_nil, decide_eq_true_eq, if_true, if_false, Bool.false_eq_true, ite_true, ite_false, true_and, and_true, Bool.not_true, Bool.not_false, dFld, sFldD, gF, dMeth, dMake, dTupP, dSl, oSome, oNo, updD_same, updD_updD, lk_stamp, lk_version, lk_over, lk_plan, lk_note, lk_ones, lk_guests, lk_says, lk_grow, lk_move, lk_move_one, lk_add, lk_drop, lk_hear, lk_rows, lk_told, lk_hands, lk_say_of, lk_parts, pf_stamp, pf_version, pf_over, pf_plan, pf_note, pf_ones, pf_ones0, pf_guests, pf_says, fs_len, lt8, vsl_plan, pf_plan2, vix_plan1, vix_plan3])
theorem pure_Record_rows' (ca : CA) (ds : List D) (G : DH) (R : DK) (EX : DX) (h : sd_Record_rows' ca ds G R EX) : b_Record_rows' ca (endsD (frg R) EX) (startD N_Record_rows ds) G := by
  obtain ⟨a, r, rfl, h, ok, q⟩ := h
  show b_Record_rows' ca (endsD (frg R) EX) [some (.ref a)] G
  unfold RecAt at h
  unfold b_Record_rows'
  walk_at "hd"
  simp only [h, lk_plan, lk_ones, true_and]
  have m0 := ok.plan.m0
  have m1 := ok.plan.m1
  exact ⟨r.plan, r.ones, rfl, by omega, by omega, fun a ha => frg_of (q a ha)⟩
theorem told_eq' (ca : CA) : b_Record_told' ca = (sSeq (sAsg (dLst dNil) (gN 5))
  (sSeq (sFor (iSq (dFld ca.Record "guests" (dVar 0))) (gT 2 (gsCons (gN 6) (gsCons (gN 7) gsNil))) (sSeq (sAsg (dIf (dTest (dOp dEq (dVar 6) (dVar 3))) (dVar 4) (dMeth ca.Record "say_of" (sd_Record_say_of ca) (dVar 0) (dCons (dVar 6) dNil))) (gN 8)) (tellS ca)))
  (sRet (dTup (dCons (dVar 1) (dCons (dVar 2) (dCons (dFld ca.Record "version" (dVar 0)) (dCons (dFld ca.Record "note" (dVar 0)) (dCons (dOp dIx (dFld ca.Record "plan" (dVar 0)) (dC (.int 1))) (dCons (dMeth ca.Record "rows" (sd_Record_rows' ca) (dVar 0) dNil) (dCons (dVar 5) dNil))))))))))) := rfl
theorem pure_Record_told' (ca : CA) (ds : List D) (G : DH) (R : DK) (EX : DX) (h : sd_Record_told' ca ds G R EX) : b_Record_told' ca (endsD (frg R) EX) (startD N_Record_told ds) G := by
  obtain ⟨a, r, host, number, me, mine, rfl, h, ok, okm, q⟩ := h
  show b_Record_told' ca (endsD (frg R) EX) [some (.ref a), some (.int host), some (.int number), some (oD me), some mine.d, none, none, none, none] G
  unfold RecAt at h
  have m0 := ok.plan.m0
  have m1 := ok.plan.m1
  have hg := ok.guests
  rw [told_eq']
  walk_at "hd"
  intro p hp
  have nap : a ≠ p := fun z => by subst z; rw [h] at hp; cases hp
  have hga : ∀ c, updD G p c a = some (.ins ca.Record r.fs) := fun c => by rw [updD_ne nap]; exact h
  simp only [sFor, iSq]
  walk_at "hd"
  simp only [hga, true_and]
  walk_at "hd"
  refine goFor_map (f := guestD) (fun xs δ G' => (∃ o6 o7 o8 : Option D, δ = [some (.ref a), some (.int host), some (.int number), some (oD me), some mine.d, some (.ref p), o6, o7, o8]) ∧ ∃ pre, pre ++ xs = r.guests ∧ G' = updD G p (.lst ((pre.map fun g : Guest => (⟨g.1, g.2, wordsOf (if some g.1 = me then mine else r.sayOf g.1) r.version r.ones r.plan.m⟩ : ToldG)).map ToldG.d)))
    (fun _ _ _ _ => trivial) (fun δ G' ⟨⟨o6, o7, o8, e⟩, pre, ep, eG⟩ => ?_) (fun g xs δ G' N ⟨⟨o6, o7, o8, e⟩, pre, ep, eG⟩ hN => ?_) _ _ _ ⟨⟨_, _, _, rfl⟩, [], rfl, rfl⟩
  · subst e eG
    rw [List.append_nil] at ep
    subst ep
    dsimp only
    walk_at "hd"
    simp only [hga, lk_version, lk_note, lk_plan, lk_rows, true_and]
    walk_at "hd"
    simp only [hga, lk_rows, true_and]
    refine ⟨a, r, rfl, hga _, ok, fun z hz => ?_⟩
    obtain ⟨hz0, nzp⟩ := none_up hz
    exact frg_of (q p z hp hz0 nzp)
  · subst e eG
    have hlen := congrArg List.length ep
    rw [List.length_append, List.length_cons] at hlen
    have nx : ∀ o8, N [some (.ref a), some (.int host), some (.int number), some (oD me), some mine.d, some (.ref p), some (.int g.1), some (oD g.2), o8] (updD G p (.lst (((pre ++ [g]).map fun g : Guest => (⟨g.1, g.2, wordsOf (if some g.1 = me then mine else r.sayOf g.1) r.version r.ones r.plan.m⟩ : ToldG)).map ToldG.d))) := fun o8 =>
      hN _ _ ⟨⟨_, _, _, rfl⟩, pre ++ [g], by rw [List.append_assoc]; exact ep, rfl⟩
    rw [toldG_snoc] at nx
    have tail : ∀ s : Say, s.Ok → s = (if some g.1 = me then mine else r.sayOf g.1) → tellS ca ⟨N, (endsD (frg R) EX).rt, (endsD (frg R) EX).bk, (endsD (frg R) EX).ct, (endsD (frg R) EX).ex⟩ [some (.ref a), some (.int host), some (.int number), some (oD me), some mine.d, some (.ref p), some (.int g.1), some (oD g.2), some s.d] (updD G p (.lst ((pre.map fun g : Guest => (⟨g.1, g.2, wordsOf (if some g.1 = me then mine else r.sayOf g.1) r.version r.ones r.plan.m⟩ : ToldG)).map ToldG.d))) := fun s oks es => by
      unfold tellS
      walk_at "hd"
      simp only [hga, true_and]
      walk_at "hd"
      refine ⟨s, r.version, r.ones, r.plan.m, rfl, oks, by omega, by omega, ?_⟩
      walk_at "hd"
      refine ⟨by rw [List.length_map, List.length_map, sizeLine_eq]; omega, ?_⟩
      subst es
      exact nx _
    unfold guestD
    walk_at "hd"
    refine veq_oD ?_
    by_cases hm : some g.1 = me
    · simp only [hm, decide_true, blD_bl, if_true]
      exact tail mine okm (by rw [if_pos hm])
    · simp only [hm, decide_false, blD_bl, Bool.false_eq_true, if_false, hga, lk_say_of, true_and]
      refine ⟨a, r, g.1, rfl, hga _, ok, ?_⟩
      exact tail _ (sayOf_ok ok _) (by rw [if_neg hm])
theorem nothing_ok : nothing.Ok := ⟨(fun v os w e => by cases e), Nat.zero_le _⟩
theorem HostAt.sub {ca : CA} {G G' : DH} {y : LH} (s : Sub G G') (h : HostAt ca G y) : HostAt ca G' y := ⟨s _ _ h.h, s _ _ h.r, s _ _ h.hd, s _ _ h.kn, h.ne⟩
theorem Base.sub {ca : CA} {G G' : DH} {x : LHand} (s : Sub G G') (h : Base ca G x) : Base ca G' x := ⟨s _ _ h.a, s _ _ h.o, s _ _ h.c⟩
theorem TAt.sub {G0 G G' : DH} (s : Sub G G') {d : D} {t : Told} (h : TAt G0 G d t) : TAt G0 G' d t := by
  obtain ⟨q, p, e, q0, p0, h1, h2⟩ := h
  exact ⟨q, p, e, q0, p0, s _ _ h1, s _ _ h2⟩
theorem ownTold_cons (me : Int) (i : Nat) (y : LH) (ys : List LH) : ownTold me i (y :: ys) = if y.rc.over = true then ownTold me (i + 1) ys else y.rc.told me i none nothing :: ownTold me (i + 1) ys := rfl
theorem ownTold_app (me : Int) : ∀ (l l' : List LH) (i : Nat), ownTold me i (l ++ l') = ownTold me i l ++ ownTold me (i + l.length) l'
  | [], l', i => rfl
  | y :: l, l', i => by
    have ih := ownTold_app me l l' (i + 1)
    rw [List.cons_append, ownTold_cons, ownTold_cons, ih, List.length_cons, show i + 1 + l.length = i + (l.length + 1) by omega]
    split <;> rfl
theorem ownTold_len (me : Int) : ∀ (l : List LH) (i : Nat), (ownTold me i l).length ≤ l.length
  | [], _ => Nat.le_refl _
  | y :: l, i => by
    have ih := ownTold_len me l (i + 1)
    unfold ownTold
    split
    · rw [List.length_cons]; omega
    · rw [List.length_cons, List.length_cons]; omega
theorem ownTold_keys (me : Int) : ∀ (l : List LH) (i : Nat), (∀ t ∈ ownTold me i l, t.host = me ∧ (i : Int) ≤ t.number) ∧ (ownTold me i l).Pairwise (fun a b => a.number < b.number)
  | [], _ => ⟨(fun _ h => by cases h), .nil⟩
  | y :: l, i => by
    obtain ⟨h1, h2⟩ := ownTold_keys me l (i + 1)
    unfold ownTold
    split
    · exact ⟨fun t ht => ⟨(h1 t ht).1, by have := (h1 t ht).2; omega⟩, h2⟩
    · refine ⟨fun t ht => ?_, List.pairwise_cons.mpr ⟨fun t ht => ?_, h2⟩⟩
      · rcases List.mem_cons.mp ht with rfl | ht
        · exact ⟨rfl, Int.le_refl _⟩
        · exact ⟨(h1 t ht).1, by have := (h1 t ht).2; omega⟩
      · have := (h1 t ht).2
        show ((i : Nat) : Int) < t.number
        omega
theorem le_num {me a b : Int} (h : a < b) : dataLe false encII (me, a) (me, b) = true := by
  show (!PySem.W.dataLt (encII (me, b)) (encII (me, a))) = true
  unfold encII
  rw [PySem.W.dataLt_tuple, PySem.W.dataLt_cons (by simp [PySem.W.alike])]
  simp only [PyData.eqv, beq_self_eq_true, if_true]
  rw [PySem.W.dataLt_cons (by simp [PySem.W.alike])]
  simp only [PyData.eqv, beq_iff_eq]
  rw [if_neg (by omega), PySem.W.dataLt_int]
  simp
  omega
theorem told_keys {G0 G : DH} : ∀ {rows : List D} {ts : List Told}, EachIs (TAt G0 G) rows ts → rows.map kII = (ts.map fun t => (t.host, t.number)).map some
  | _, _, .nil => rfl
  | _, _, .cons hd ht => by
    obtain ⟨q, p, e, _⟩ := hd
    rw [List.map_cons, List.map_cons, List.map_cons, told_keys ht, e]
    rfl
theorem each_snoc {α β : Type} {P : α → β → Prop} : ∀ {as : List α} {bs : List β} {a : α} {b : β}, EachIs P as bs → P a b → EachIs P (as ++ [a]) (bs ++ [b])
  | _, _, _, _, .nil, h => .cons h .nil
  | _, _, _, _, .cons h t, h' => .cons h (each_snoc t h')
theorem told_sorted {G0 G : DH} : ∀ {rows : List D} {ts : List Told} {me : Int}, EachIs (TAt G0 G) rows ts → (∀ t ∈ ts, t.host = me) → ts.Pairwise (fun a b => a.number < b.number) → sortG encII rows (ts.map fun t => (t.host, t.number)) = rows := fun {rows ts me} h hm hp => by
  unfold sortG
  have hz : (rows.zip (ts.map fun t => (t.host, t.number))).Pairwise fun a b => dataLe false (fun b : D × (Int × Int) => encII b.2) a b = true := by
    induction h with
    | nil => exact .nil
    | @cons d t ds ts hd ht ih =>
      obtain ⟨p1, p2⟩ := List.pairwise_cons.mp hp
      rw [List.map_cons, List.zip_cons_cons]
      refine List.pairwise_cons.mpr ⟨fun x hx => ?_, ih (fun t ht => hm t (List.mem_cons_of_mem _ ht)) p2⟩
      have hx2 := (List.of_mem_zip hx).2
      obtain ⟨u, hu, e⟩ := List.mem_map.mp hx2
      show dataLe false encII (t.host, t.number) x.2 = true
      rw [← e, hm t List.mem_cons_self, hm u (List.mem_cons_of_mem _ hu)]
      exact le_num (p1 u hu)
  have hl : rows.length = ts.length := h.length
  have e : (rows.zip (ts.map fun t => (t.host, t.number))).mergeSort (dataLe false fun b : D × (Int × Int) => encII b.2) = rows.zip (ts.map fun t => (t.host, t.number)) := List.mergeSort_of_pairwise hz
  rw [e]
  exact List.map_fst_zip (by rw [List.length_map]; omega)
def bookB (ca : CA) : DSt := (sIf (dNot (dTest (dFld ca.Record "over" (dFld ca.Hosted "record" (dVar 3))))) (sDrop (dBM "list" mAppend (dVar 1) (dCons (dMeth ca.Record "told" (sd_Record_told' ca) (dFld ca.Hosted "record" (dVar 3)) (dCons (dFld ca.Hand "me" (dVar 0)) (dCons (dVar 2) (dCons (dC .non) (dCons (dC (.tup [(.int 0), .non, (.tup []), .non])) dNil))))) dNil))) sNext)
theorem enum_map {α : Type} (f : α → D) (l : List α) : enumD (l.map f) = (List.range l.length).map fun i => .tup [.int (i : Nat), (l.map f).getD i .non] := by
  unfold enumD
  rw [List.length_map]
theorem pure_Hand_book' (ca : CA) (ds : List D) (G : DH) (R : DK) (EX : DX) (h : sd_Hand_book' ca ds G R EX) : b_Hand_book' ca (endsD (frg R) EX) (startD N_Hand_book ds) G := by
  obtain ⟨x, rfl, hb, hc, hy, hl, q⟩ := h
  show b_Hand_book' ca (endsD (frg R) EX) [some (.ref x.a), none, none, none, none, none] G
  unfold b_Hand_book'
  walk_at "hd"
  intro f hf
  have hfa : updD G f (.lst []) x.a = some (.ins ca.Hand x.fs) := by rw [updD_ne (neD hb.a hf)]; exact hb.a
  simp only [sFor, iEnumD]
  walk_at "hd"
  simp only [hfa, la_own, true_and]
  have hfo : updD G f (.lst []) x.o = some (.lst (x.own.map fun y => .ref y.h)) := by rw [updD_ne (neD hb.o hf)]; exact hb.o
  refine ⟨_, hfo, ?_⟩
  rw [enum_map]
  refine goFor_map (f := fun i : Nat => D.tup [.int (i : Nat), (x.own.map fun y => D.ref y.h).getD i .non]) (fun xs δ G' => (∃ o2 o3 o4 o5 : Option D, δ = [some (.ref x.a), some (.ref f), o2, o3, o4, o5]) ∧ ∃ (n : Nat) (rows : List D), xs = (List.range x.own.length).drop n ∧ n ≤ x.own.length ∧ Sub G G' ∧ G' f = some (.lst rows) ∧ EachIs (TAt (updD G f (.lst [])) G') rows (ownTold x.me 0 (x.own.take n)))
    (fun xs δ G' ⟨_, n, rows, _, _, s, _, _⟩ => s _ _ hb.o) (fun δ G' ⟨⟨o2, o3, o4, o5, e⟩, n, rows, en, hn, s, hfr, ea⟩ => ?_) (fun i xs δ G' N ⟨⟨o2, o3, o4, o5, e⟩, n, rows, en, hn, s, hfr, ea⟩ hN => ?_) (List.range x.own.length) _ _ ⟨⟨_, _, _, _, rfl⟩, 0, [], rfl, Nat.zero_le _, Sub.new hf, updD_same, .nil⟩
  · subst e
    have hn2 : n = x.own.length := by
      have := congrArg List.length en
      rw [List.length_drop, List.length_range, List.length_nil] at this
      omega
    subst hn2
    rw [List.take_length] at ea
    dsimp only
    walk_at "hd"
    have ha' : G' x.a = some (.ins ca.Hand x.fs) := s _ _ hb.a
    have hc' : G' x.c = some (.dT []) := by
      have := s _ _ hb.c
      rw [hc] at this
      exact this
    simp only [sFor, iSq]
    walk_at "hd"
    simp only [ha', la_calls, true_and]
    refine ⟨[], by unfold dictTOf; dsimp only; rw [hc'], ?_, .inl (fun d hd => by cases hd), ?_⟩
    · first | exact fun x hx => by cases hx | exact AllAlike.of fun x y => encI_alike x y
    have e0 : (sortK (([] : List (List Key × D)).map (·.1))).map D.key = [] := by simp [sortK]
    rw [e0]
    refine ⟨trivial, ?_⟩
    walk_at "hd"
    simp only [dSortG]
    walk_at "hd"
    have ea' : EachIs (TAt G G') rows (ownTold x.me 0 x.own) := ea.mono fun d t ⟨q, p, e, q0, p0, h1, h2⟩ => ⟨q, p, e, (none_up q0).1, (none_up p0).1, h1, h2⟩
    obtain ⟨k1, k2⟩ := ownTold_keys x.me x.own 0
    have hlen := ownTold_len x.me x.own 0
    refine ⟨rows, (ownTold x.me 0 x.own).map fun t => (t.host, t.number), hfr, ?_, by rw [ea.length, sizeLine_eq]; omega, fun b hbn => ?_⟩
    · exact told_keys ea'
    · rw [told_sorted ea' (fun t ht => (k1 t ht).1) k2]
      have hbG : G b = none := by
        cases hg : G b with
        | none => rfl
        | some c => rw [s _ _ hg] at hbn; cases hbn
      refine frg_of (q _ b rows (s.trans (Sub.new hbn)) hbG updD_same (ea'.mono fun d t h => h.sub (Sub.new hbn)))
  · subst e
    have hnl : n < x.own.length := by
      have := congrArg List.length en
      rw [List.length_drop, List.length_range, List.length_cons] at this
      omega
    rw [List.drop_eq_getElem_cons (by rw [List.length_range]; exact hnl), List.getElem_range, List.cons.injEq] at en
    obtain ⟨ei, exs⟩ := en
    subst ei
    have hy2 := hy x.own[i] (List.getElem_mem hnl)
    have eg : (x.own.map fun y => D.ref y.h).getD i .non = .ref x.own[i].h := by
      rw [List.getD_eq_getElem?_getD, List.getElem?_map, List.getElem?_eq_getElem hnl]
      rfl
    rw [eg]
    generalize hyi : x.own[i] = y at hy2
    obtain ⟨hya, hyo⟩ := hy2
    have hy' := hya.sub s
    have et : x.own.take (i + 1) = x.own.take i ++ [y] := by rw [List.take_add_one, List.getElem?_eq_getElem hnl, hyi]; rfl
    have etl : (x.own.take i).length = i := by rw [List.length_take]; omega
    have hlen := ownTold_len x.me (x.own.take i) 0
    have nx : ∀ (G2 : DH) (rows2 : List D) o2 o3 o4 o5, Sub G G2 → G2 f = some (.lst rows2) → EachIs (TAt (updD G f (.lst [])) G2) rows2 (ownTold x.me 0 (x.own.take (i + 1))) → N [some (.ref x.a), some (.ref f), o2, o3, o4, o5] G2 := fun G2 rows2 o2 o3 o4 o5 s2 h2 e2 =>
      hN _ _ ⟨⟨_, _, _, _, rfl⟩, i + 1, rows2, exs, hnl, s2, h2, e2⟩
    rw [et, ownTold_app, etl, Nat.zero_add, ownTold_cons, show ownTold x.me (i + 1) [] = [] from rfl] at nx
    walk_at "hd"
    simp only [hy'.h, lh_record, hy'.r, lk_over, true_and]
    walk_at "hd"
    cases hov : y.rc.over with
    | true =>
      rw [hov, if_pos rfl, List.append_nil] at nx
      walk_at "hd"
      exact nx G' rows _ _ _ _ s hfr ea
    | false =>
      rw [hov, if_neg Bool.false_ne_true] at nx
      walk_at "hd"
      have ha' : G' x.a = some (.ins ca.Hand x.fs) := s _ _ hb.a
      refine ⟨by unfold tyR; dsimp only; rw [hfr], ?_⟩
      simp only [hy'.h, lh_record, hy'.r, lk_told, ha', la_me, true_and]
      refine ⟨y.r, y.rc, x.me, i, none, nothing, rfl, hy'.r, hyo, nothing_ok, fun p q hp hq nqp => ?_⟩
      have nfp : f ≠ p := neD hfr hp
      have nfq : f ≠ q := neD hfr hq
      have hf2 : updD (updD G' p (.lst ((y.rc.told x.me i none nothing).guests.map ToldG.d))) q (.lst ((y.rc.told x.me i none nothing).rows.map Pl.Row.d)) f = some (.lst rows) := by
        rw [updD_ne nfq, updD_ne nfp]
        exact hfr
      simp only [mAppend]
      refine ⟨rows, hf2, by rw [ea.length, sizeLine_eq]; omega, ?_⟩
      have hpG : G p = none := by
        cases hg : G p with
        | none => rfl
        | some c => rw [s _ _ hg] at hp; cases hp
      have hqG : G q = none := by
        cases hg : G q with
        | none => rfl
        | some c => rw [s _ _ hg] at hq; cases hq
      have keep : ∀ {b c}, b ≠ f → G' b = some c → updD (updD (updD G' p (.lst ((y.rc.told x.me i none nothing).guests.map ToldG.d))) q (.lst ((y.rc.told x.me i none nothing).rows.map Pl.Row.d))) f (.lst (rows ++ [(y.rc.told x.me i none nothing).dr q p])) b = some c := fun {b c} nb hbc => by
        rw [updD_ne nb, updD_ne (neD hbc hq), updD_ne (neD hbc hp)]
        exact hbc
      refine nx _ (rows ++ [(y.rc.told x.me i none nothing).dr q p]) _ _ _ _ (fun b c hbc => keep (neD hbc hf) (s _ _ hbc)) updD_same (each_snoc (ea.mono fun d t ⟨q', p', e, q0, p0, h1, h2⟩ => ⟨q', p', e, q0, p0, keep (none_up q0).2 h1, keep (none_up p0).2 h2⟩) ?_)
      refine ⟨q, p, rfl, by rw [updD_ne (Ne.symm nfq)]; exact hqG, by rw [updD_ne (Ne.symm nfp)]; exact hpG, ?_, ?_⟩
      · rw [updD_ne (Ne.symm nfq), updD_same]
      · rw [updD_ne (Ne.symm nfp), updD_ne (Ne.symm nqp), updD_same]
end Hd
/-! ### hands: names of meetings -/
namespace Hd
open PySem PySem.Spec PyProof.Rows L2 Cc Pl
open PySem.W (EachIs AllAlike Sortable dataLe)
local macro_rules | `(tactic| walk_at "rd") => `(tactic| try simp only [sSeq, sIf, sAsg, sRet, sRetN, sDrop, sNext, gN, gT, gsCons, gsNil, gsNames, wipeD, D.tl, dTest, dAnd, dOr, dNot, dAndV, dOrV, dNotV, dIf, dOp, dUn, dVar, dC, dCons, dNil, dCB, dCall, dTup, dLst, dLstF, dYes, blD_bl, dEq_int, dNe_int, dEq_bl, dNe_bl, dEq_str, dChain, vadd_int, vadd_rol, vadd_tup, vmul_int, vsub_int, vlt_int, vle_int, vgt_int, vge_int, vmax_int, vmin_int, vneg_int, vlen_tup, vlen_rol, vtup_rol, vtup_tup, vlist_rol, vlist_tup, vix_tup, vix_rol, vat_0, vat_1, vat_2, vat_3, vat_4, vat_5, vat_6, vsl_tup, vsl_rol, visi_non_bool, visi_non_int, visi_non_str, visi_non_tuple, visi_non_list, visi_bl_bool, visi_bl_int, visi_bl_str, visi_bl_tuple, visi_bl_list, visi_int_bool, visi_int_int, visi_int_str, visi_int_tuple, visi_int_list, visi_str_bool, visi_str_int, visi_str_str, visi_str_tuple, visi_str_list, visi_tup_bool, visi_tup_int, visi_tup_str, visi_tup_tuple, visi_tup_list, visi_key_bool, visi_key_int, visi_key_str, visi_key_tuple, visi_key_list, visi_rol_bool, visi_rol_int, visi_rol_str, visi_rol_tuple, visi_rol_list, dBM, vtyL, vapp, vlen_upd, vix_upd, vsz_0, vsz_1, vsz_2, vsz_3, vsz_4, vsz_5, vsz_6, vsz_7, vsz_8, vsz_9, dIsN, dNotN, D.isN, List.getElem?_cons_zero, List.getElem?_cons_succ, List.set_cons_zero, List.set_cons_succ, List.length_cons, List.length_nil, decide_eq_true_eq, if_true, if_false, Bool.false_eq_true, ite_true, ite_false, true_and, and_true, Bool.not_true, Bool.not_false])
local macro_rules | `(tactic| walk_at "hd") => `(tactic| try simp only [sSeq, sIf, sAsg, sRet, sRetN, sDrop, sNext, gN, gT, gsCons, gsNil, gsNames, wipeD, D.tl, dTest, dAnd, dOr, dNot, dAndV, dOrV, dNotV, dIf, dOp, dUn, dVar, dC, dCons, dNil, dCB, dCall, dTup, dLst, dLstF, dYes, blD_bl, dEq_int, dNe_int, dEq_bl, dNe_bl, dEq_str, dChain, vadd_int, vadd_rol, vadd_tup, vmul_int, vsub_int, vlt_int, vle_int, vgt_int, vge_int, vmax_int, vmin_int, vneg_int, vlen_tup, vlen_rol, vtup_rol, vtup_tup, vlist_rol, vlist_tup, vix_tup, vix_rol, vat_0, vat_1, vat_2, vat_3, vat_4, vat_5, vat_6, vsl_tup, vsl_rol, visi_non_bool, visi_non_int, visi_non_str, visi_non_tuple, visi_non_list, visi_bl_bool, visi_bl_int, visi_bl_str, visi_bl_tuple, visi_bl_list, visi_int_bool, visi_int_int, visi_int_str, visi_int_tuple, visi_int_list, visi_str_bool, visi_str_int, visi_str_str, visi_str_tuple, visi_str_list, visi_tup_bool, visi_tup_int, visi_tup_str, visi_tup_tuple, visi_tup_list, visi_key_bool, visi_key_int, visi_key_str, visi_key_tuple, visi_key_list, visi_rol_bool, visi_rol_int, visi_rol_str, visi_rol_tuple, visi_rol_list, dBM, vtyL, vapp, vlen_upd, vix_upd, vsz_0, vsz_1, vsz_2, vsz_3, vsz_4, vsz_5, vsz_6, vsz_7, vsz_8, vsz_9, dIsN, dNotN, D.isN, List.getElem?_cons_zero, List.getElem?_cons_succ, List.set_cons_zero, List.set_cons_succ, List.length_cons, List.length_nil, decide_eq_true_eq, if_true, if_false, Bool.false_eq_true, ite_true, ite_false, true_and, and_true, Bool.not_true, Bool.not_false, dFld, sFldD, gF, dMeth, dMake, dTupP, dSl, oSome, oNo, updD_same, updD_updD, lk_stamp, lk_version, lk_over, lk_plan, lk_note, lk_ones, lk_guests, lk_says, lk_grow, lk_move, lk_move_one, lk_add, lk_drop, lk_hear, lk_rows, lk_told, lk_hands, lk_say_of, lk_parts, pf_stamp, pf_version, pf_over, pf_plan, pf_note, pf_ones, pf_ones0, pf_guests, pf_says, fs_len, lt8, vsl_plan, pf_plan2, vix_plan1, vix_plan3])
theorem pure_is_name (ds : List D) (G : DH) (R : DK) (EX : DX) (h : sd_is_name ds G R EX) : b_is_name (endsD (frg R) EX) (startD N_is_name ds) G := by
  obtain ⟨z, rfl, hz, q⟩ := h
  have q := frg_of q
  show b_is_name (endsD (frg R) EX) [some (.str z), none] G
  unfold isName at hz
  rw [Bool.and_eq_true, decide_eq_true_eq, List.all_eq_true] at hz
  obtain ⟨h1, h2⟩ := hz
  unfold b_is_name
  walk_at "hd"
  have hlen : ∀ R : DK, R (.int z.length) G → dLen [.str z] G R := fun R q => by
    unfold dLen lenOf
    dsimp only
    first | exact q | exact ⟨by rw [sizeLine_eq]; omega, q⟩ | (rw [if_pos (by rw [sizeLine_eq]; omega)]; exact q)
  refine hlen _ ?_
  walk_at "hd"
  rw [if_pos (show (z.length : Int) ≤ 10 by omega)]
  walk_at "hd"
  simp only [dLcF, iStrD]
  walk_at "hd"
  unfold Cc.signs
  refine goLcF_mem (ok := fun _ => True) (G := G) (f := fun c : Nat => D.str ⟨#[c]⟩) (fun c : Nat => none) trivial z.cps.toList [] (fun c hc C1 C2 hC => ?_) (by
    rw [List.length_nil, Nat.zero_add, Array.length_toList]
    exact sz_small (by have : z.cps.size = z.length := rfl; omega)) ?_
  · have hin := h2 c hc
    rw [decide_eq_true_eq] at hin
    walk_at "hd"
    unfold dNotIn inOf
    dsimp only
    rw [if_pos (show (#[c] : Array Nat).size = 1 from rfl)]
    have e : decide ([c].headD 0 ∈ ("abcdefghijklmnopqrstuvwxyz" : Str).cps.toList) = true := decide_eq_true hin
    rw [e]
    walk_at "hd"
    exact hC
  · have e : z.cps.toList.filterMap (fun c : Nat => (none : Option D)) = [] := by
      induction z.cps.toList with
      | nil => rfl
      | cons c l ih => rw [List.filterMap_cons]; exact ih
    rw [e, List.append_nil]
    refine veq_nil (ts := []) .nil shaped_nil ?_
    exact q
end Hd
/-! ### hands: what holds of each record -/
namespace Hd
open PySem PySem.Spec PyProof.Rows L2 Cc Pl
open PySem.W (EachIs AllAlike Sortable dataLe)
theorem lt_len : ∀ (l : List Int) (lo hi : Int), l.Pairwise (· < ·) → (∀ x ∈ l, lo ≤ x ∧ x < hi) → l.length ≤ (hi - lo).toNat
  | [], _, _, _, _ => Nat.zero_le _
  | x :: l, lo, hi, h, b => by
    obtain ⟨h1, h2⟩ := List.pairwise_cons.mp h
    obtain ⟨b1, b2⟩ := b x List.mem_cons_self
    have := lt_len l (x + 1) hi h2 fun y hy => ⟨by have := h1 y hy; omega, (b y (List.mem_cons_of_mem _ hy)).2⟩
    rw [List.length_cons]
    omega
theorem sortI_perm (l : List Int) : (sortI l).Perm l := List.mergeSort_perm l _
theorem sortI_le (l : List Int) : (sortI l).Pairwise (· ≤ ·) := by
  have := List.pairwise_mergeSort (le := fun a b : Int => decide (a ≤ b)) (fun a b c h1 h2 => by simp at *; omega) (fun a b => by simp; omega) l
  exact this.imp (fun h => by simpa using h)
theorem lt_of_nodup {l : List Int} (h : l.Pairwise (· ≤ ·)) (n : l.Nodup) : l.Pairwise (· < ·) := by
  have := List.Pairwise.and h n
  exact this.imp fun ⟨a, b⟩ => by omega
theorem sortI_lt {l : List Int} (n : l.Nodup) : (sortI l).Pairwise (· < ·) := lt_of_nodup (sortI_le l) ((sortI_perm l).nodup_iff.mpr n)
theorem nodup_of_lt {l : List Int} (h : l.Pairwise (· < ·)) : l.Nodup := h.imp fun h => by omega
theorem nd_len {l : List Int} {lo hi : Int} (n : l.Nodup) (b : ∀ x ∈ l, lo ≤ x ∧ x < hi) : l.length ≤ (hi - lo).toNat := by
  rw [← (sortI_perm l).length_eq]
  exact lt_len _ lo hi (sortI_lt n) fun x hx => b x ((sortI_perm l).mem_iff.mp hx)
/-- rising lists of the same numbers are the same -/
theorem lt_ext {l m : List Int} (h : l.Pairwise (· < ·)) (h' : m.Pairwise (· < ·)) (e : ∀ x, x ∈ l ↔ x ∈ m) : l = m := by
  have hp : l.Perm m := (List.perm_ext_iff_of_nodup (nodup_of_lt h) (nodup_of_lt h')).mpr e
  exact hp.eq_of_pairwise (le := (· ≤ ·)) (fun a b _ _ h1 h2 => by omega) (h.imp fun h => by omega) (h'.imp fun h => by omega)
section
variable {α : Type}
theorem byH_perm (l : List (Int × α)) : (byH l).Perm l := List.mergeSort_perm l _
theorem byH_le (l : List (Int × α)) : ((byH l).map (·.1)).Pairwise (· ≤ ·) := by
  have := List.pairwise_mergeSort (le := fun a b : Int × α => decide (a.1 ≤ b.1)) (fun a b c h1 h2 => by simp at *; omega) (fun a b => by simp; omega) l
  rw [List.pairwise_map]
  exact this.imp (fun h => by simpa using h)
theorem byH_lt {l : List (Int × α)} (n : (l.map (·.1)).Nodup) : ((byH l).map (·.1)).Pairwise (· < ·) := lt_of_nodup (byH_le l) (((byH_perm l).map _).nodup_iff.mpr n)
theorem byH_mem {l : List (Int × α)} {x : Int × α} : x ∈ byH l ↔ x ∈ l := (byH_perm l).mem_iff
theorem byH_key {l : List (Int × α)} {x : Int} : x ∈ (byH l).map (·.1) ↔ x ∈ l.map (·.1) := ((byH_perm l).map _).mem_iff
theorem keys_filter {l : List (Int × α)} {h x : Int} : x ∈ (l.filter (fun y => !decide (y.1 = h))).map (·.1) ↔ x ∈ l.map (·.1) ∧ x ≠ h := by
  simp only [List.mem_map, List.mem_filter, Bool.not_eq_true', decide_eq_false_iff_not]
  constructor
  · rintro ⟨p, ⟨a, b⟩, rfl⟩; exact ⟨⟨p, a, rfl⟩, b⟩
  · rintro ⟨⟨p, a, rfl⟩, b⟩; exact ⟨p, ⟨a, b⟩, rfl⟩
theorem nd_put {l : List (Int × α)} {h : Int} {y : α} (n : (l.map (·.1)).Nodup) : (((l.filter (fun x => !decide (x.1 = h))) ++ [(h, y)]).map (·.1)).Nodup := by
  rw [List.map_append, List.map_cons, List.map_nil]
  refine List.nodup_append.mpr ⟨n.sublist (List.filter_sublist.map _), by simp, fun a ha b hb => ?_⟩
  rw [List.mem_singleton.mp hb]
  exact (keys_filter.mp ha).2
end
structure Rec.Inv (r : Rec) : Prop where
  plan : r.plan.Ok
  nd : Ndk r.ones
  ks : ∀ o ∈ r.ones, 0 ≤ o.k ∧ o.k < r.plan.m
  gs : (r.guests.map (·.1)).Pairwise (· < ·)
  g8 : ∀ g ∈ r.hands, 0 ≤ g ∧ g < 8
  ss : (r.says.map (·.1)).Pairwise (· < ·)
  sg : ∀ s ∈ r.says.map (·.1), s ∈ r.hands
  say : ∀ s ∈ r.says, s.2.Ok
theorem Rec.Inv.glen {r : Rec} (h : r.Inv) : r.guests.length ≤ 8 := by
  have := lt_len _ 0 8 h.gs h.g8
  rw [List.length_map] at this
  exact this
theorem Rec.Inv.slen {r : Rec} (h : r.Inv) : r.says.length ≤ 8 := by
  have := lt_len _ 0 8 h.ss fun x hx => h.g8 x (h.sg x hx)
  rw [List.length_map] at this
  exact this
theorem Rec.Inv.olen {r : Rec} (h : r.Inv) : r.ones.length ≤ 12 := by
  have n := h.nd
  unfold Ndk at n
  have := nd_len (l := r.ones.map (fun o => o.k)) (lo := 0) (hi := r.plan.m) n fun x hx => by
    obtain ⟨o, ho, rfl⟩ := List.mem_map.mp hx
    exact h.ks o ho
  rw [List.length_map] at this
  have := h.plan.m1
  omega
theorem Rec.Inv.ok {r : Rec} (h : r.Inv) : r.Ok := ⟨h.plan, by have := h.olen; omega, by have := h.glen; omega, by have := h.slen; omega, nodup_of_lt h.ss, h.say⟩
theorem Rec.Inv.grow {r : Rec} (h : r.Inv) : r.grow.Inv := ⟨h.plan, h.nd, h.ks, h.gs, h.g8, h.ss, h.sg, h.say⟩
theorem Rec.Inv.off {r : Rec} (h : r.Inv) (b : Bool) : Rec.Inv { r with over := b } := ⟨h.plan, h.nd, h.ks, h.gs, h.g8, h.ss, h.sg, h.say⟩
theorem Rec.Inv.name {r : Rec} (h : r.Inv) (z : Str) : Rec.Inv { r with note := z } := ⟨h.plan, h.nd, h.ks, h.gs, h.g8, h.ss, h.sg, h.say⟩
theorem Rec.Inv.move {r : Rec} (h : r.Inv) {b : Int} (b0 : 0 ≤ b) (b1 : b ≤ 999) : (r.move b).Inv :=
  ⟨{ h.plan with b0 := b0, b1 := b1 }, List.nodup_nil, fun o ho => (by cases ho), h.gs, h.g8, h.ss, h.sg, h.say⟩
theorem changed_mem {os : List One} {k : Int} {b : Option Int} {o : One} : o ∈ Pl.changed os k b ↔ (o ∈ os ∧ o.k ≠ k) ∨ o = ⟨k, (chg os k).1 + 1, b⟩ := by
  unfold Pl.changed
  rw [byK_mem, List.mem_append, List.mem_filter, List.mem_singleton, Bool.not_eq_true', decide_eq_false_iff_not]
theorem Rec.Inv.moveOne {r : Rec} (h : r.Inv) {k : Int} {b : Option Int} (k0 : 0 ≤ k) (k1 : k < r.plan.m) : (r.moveOne k b).Inv := by
  refine ⟨h.plan, ndk_changed h.nd _ _, fun o ho => ?_, h.gs, h.g8, h.ss, h.sg, h.say⟩
  rcases changed_mem.mp ho with ⟨ho, _⟩ | rfl
  · exact h.ks o ho
  · exact ⟨k0, k1⟩
theorem Rec.Inv.hear {r : Rec} (h : r.Inv) {hand : Int} {s : Say} (hh : hand ∈ r.hands) (ok : s.Ok) : (r.hear hand s).Inv := by
  refine ⟨h.plan, h.nd, h.ks, h.gs, h.g8, byH_lt (nd_put (nodup_of_lt h.ss)), fun x hx => ?_, fun x hx => ?_⟩
  · have hx := byH_key.mp hx
    rw [List.map_append, List.mem_append] at hx
    rcases hx with hx | hx
    · exact h.sg x (keys_filter.mp hx).1
    · rw [List.mem_singleton.mp hx]; exact hh
  · have hx := byH_mem.mp hx
    rcases List.mem_append.mp hx with hx | hx
    · exact h.say x (List.mem_filter.mp hx).1
    · rw [List.mem_singleton.mp hx]; exact ok
theorem Rec.Inv.add {r : Rec} (h : r.Inv) {hand : Int} {b : Option Int} {s : Say} (hh : hand ∉ r.hands) (h0 : 0 ≤ hand ∧ hand < 8) (ok : s.Ok) : (r.add hand b s).Inv := by
  have hm : ∀ x, x ∈ (byH (r.guests ++ [(hand, b)])).map (·.1) ↔ x ∈ r.hands ∨ x = hand := fun x => by
    rw [byH_key, List.map_append, List.mem_append]
    exact or_congr Iff.rfl List.mem_singleton
  have hn : ((r.guests ++ [(hand, b)]).map (·.1)).Nodup := by
    rw [List.map_append]
    refine List.nodup_append.mpr ⟨nodup_of_lt h.gs, by simp, fun a ha c hc e => ?_⟩
    subst e
    rw [List.map_cons, List.map_nil, List.mem_singleton] at hc
    subst hc
    exact hh ha
  have h1 : Rec.Inv { r with guests := byH (r.guests ++ [(hand, b)]) } :=
    ⟨h.plan, h.nd, h.ks, byH_lt hn, fun x hx => by rcases (hm x).mp hx with hx | rfl; exact h.g8 x hx; exact h0, h.ss, fun x hx => (hm x).mpr (.inl (h.sg x hx)), h.say⟩
  exact h1.hear ((hm hand).mpr (.inr rfl)) ok
theorem Rec.hands_drop (r : Rec) (hand : Int) : (r.drop hand).hands = r.hands.filter fun x => !decide (x = hand) := by
  show (r.guests.filter _).map _ = (r.guests.map _).filter _
  rw [List.filter_map]
  rfl
theorem Rec.Inv.drop {r : Rec} (h : r.Inv) (hand : Int) : (r.drop hand).Inv := by
  refine ⟨h.plan, h.nd, h.ks, h.gs.sublist (List.filter_sublist.map _), fun x hx => ?_, h.ss.sublist (List.filter_sublist.map _), fun x hx => ?_, fun x hx => h.say x (List.mem_filter.mp hx).1⟩
  · exact h.g8 x (keys_filter.mp hx).1
  · obtain ⟨a, b⟩ := keys_filter.mp hx
    exact keys_filter.mpr ⟨h.sg x a, b⟩
theorem Rec.Inv.first {p : Plan} {gs : List Int} (ok : p.Ok) (n : gs.Nodup) (h8 : ∀ g ∈ gs, 0 ≤ g ∧ g < 8) : (first p gs).Inv := by
  have e : (Hd.first p gs).hands = sortI gs := first_hands p gs
  refine ⟨ok, List.nodup_nil, fun o ho => (by cases ho), ?_, ?_, .nil, fun s hs => (by cases hs), fun s hs => (by cases hs)⟩
  · show (Hd.first p gs).hands.Pairwise _
    rw [e]; exact sortI_lt n
  · rw [e]; exact fun g hg => h8 g ((sortI_perm gs).mem_iff.mp hg)
end Hd
/-! ### k02: promises; the plain law -/
namespace K02
open PySem PySem.Spec PyProof.Rows L2 Cc Pl
open PySem.W (EachIs AllAlike Sortable dataLe)
abbrev Ch := Int × Option Int
def chD (c : Ch) : D := .tup [.int c.1, oD c.2]
def okC (p : Plan) (c : Ch) : Bool := btw (.int c.1) 0 (p.m - 1) && match c.2 with
  | none => true
  | some b => btw (.int b) 0 999
def after (cs : List Ch) : List One := cs.foldl (fun os c => changed os c.1 c.2) []
def sd_rows (C : Addr) : SpD := fun ds G R EX => ∃ l cs, ds = [.tup l, .rol (cs.map chD)] ∧ (∀ x ∈ l, Atom x) ∧ cs.length ≤ 100 ∧ (isPlan l = false → EX (.ref C) none G) ∧
  ∀ p : Plan, l = p.ds → p.Ok → (cs.all (okC p) = true → ∀ a, G a = none → R (.ref a) (updD G a (.lst ((rowsOf p (after cs)).map Row.d)))) ∧ (cs.all (okC p) = false → EX (.ref C) none G)
def sd__law_plan : SpD := fun ds G R _ => ∃ a l, ds = [.ref a] ∧ G a = some (.lst l) ∧ Draws l ∧ ∀ (p : Plan) l', p.Ok → Draws l' → R p.d (updD G a (.lst l'))
/-- by own going -/
def some_ (cs : List Ch) (k : Int) : List (Option Int) := (cs.filter fun c => decide (c.1 = k)).map (·.2)
def dueRow (p : Plan) (cs : List Ch) (k : Nat) : Pl.Row := ⟨k, match (some_ cs k).getLast? with
  | some b => b
  | none => some (p.b + k * p.e), (some_ cs k).length⟩
theorem after_step (cs : List Ch) : ∀ os, Ndk os → Ndk (cs.foldl (fun os c => changed os c.1 c.2) os) ∧ ∀ k, chg (cs.foldl (fun os c => changed os c.1 c.2) os) k = match (some_ cs k).getLast? with
    | some b => ((chg os k).1 + (some_ cs k).length, b)
    | none => chg os k := by
  induction cs with
  | nil => exact fun os n => ⟨n, fun k => rfl⟩
  | cons c cs ih =>
    intro os n
    obtain ⟨h1, h2⟩ := ih (changed os c.1 c.2) (ndk_changed n _ _)
    refine ⟨h1, fun k => ?_⟩
    rw [List.foldl_cons, h2 k, chg_changed n]
    unfold some_
    rw [List.filter_cons]
    by_cases h : c.1 = k
    · rw [decide_eq_true h, if_pos rfl, List.map_cons]
      subst h
      rw [if_pos rfl]
      rw [List.getLast?_cons]
      cases e : ((cs.filter fun d => decide (d.1 = c.1)).map (·.2)).getLast? with
      | none =>
        have e2 := List.getLast?_eq_none_iff.mp e
        rw [e2]
        simp
      | some b =>
        simp only [Option.getD_some, List.length_cons]
        congr 1
        omega
    · rw [decide_eq_false h, if_neg Bool.false_ne_true]
      have h' : ¬ k = c.1 := fun e => h e.symm
      rw [if_neg h']
theorem due_rows (p : Plan) (cs : List Ch) : (List.range p.m.toNat).map (dueRow p cs) = rowsOf p (after cs) := by
  unfold rowsOf
  refine List.map_congr_left fun k _ => ?_
  obtain ⟨_, h⟩ := after_step cs [] (by unfold Ndk; simp)
  have hk := h (k : Int)
  unfold Pl.rowOf dueRow after
  have c0 : chg ([] : List One) k = (0, none) := rfl
  rw [hk]
  cases e : (some_ cs k).getLast? with
  | none =>
    have e2 := List.getLast?_eq_none_iff.mp e
    rw [e2, c0]
    simp
  | some b =>
    have : (some_ cs k) ≠ [] := fun z => by rw [z] at e; cases e
    have hl : 0 < (some_ cs k).length := List.length_pos_iff.mpr this
    rw [c0]
    simp only [Int.zero_add]
    rw [if_neg (by omega)]
theorem after_len (cs : List Ch) : (after cs).length ≤ cs.length := by
  have : ∀ os : List One, (cs.foldl (fun os c => changed os c.1 c.2) os).length ≤ os.length + cs.length := by
    induction cs with
    | nil => intro os; simp
    | cons c cs ih =>
      intro os
      have h1 := ih (changed os c.1 c.2)
      have h2 := changed_len os c.1 c.2
      rw [List.foldl_cons, List.length_cons]
      omega
  have z := this []
  simp only [List.length_nil, Nat.zero_add] at z
  exact z
end K02
/-! ### the laws' own defs: promises -/
namespace Lw
open PySem PySem.Spec PyProof.Rows L2 Cc Pl
def sd__law_plan : SpD := fun ds G R _ => ∃ a l, ds = [.ref a] ∧ G a = some (.lst l) ∧ Draws l ∧ ∀ (p : Plan) l', p.Ok → Draws l' → R p.d (updD G a (.lst l'))
def sd__law_mixed : SpD := fun ds G R _ => ∃ (a : Addr) (l : List D) (ns : List Int), ds = [.ref a, .rol (ns.map .int)] ∧ G a = some (.lst l) ∧ Draws l ∧ ns.length ≤ 1000 ∧ ∀ (ms : List Int) l', ms.Perm ns → Draws l' → R (.rol (ms.map .int)) (updD G a (.lst l'))
end Lw
/-! ### the laws' own defs: readings -/
namespace Lw
open PySem PySem.Spec PyProof.Rows L2 Cc Pl
def b__law_mixed : DSt :=
  (sSeq (sAsg (dCB dListC (dCons (dVar 1) dNil)) (gN 2))
  (sSeq (sAsg (dLst dNil) (gN 3))
  (sSeq (sWhile (dTest (dOp dNeE (dVar 2) (dLstF dNil))) (sDrop (dBM "list" mAppend (dVar 3) (dCons (dBM "list" mPopAt (dVar 2) (dCons (dCall sd__law_off (dCons (dVar 0) (dCons (dCB dLen (dCons (dVar 2) dNil)) dNil))) dNil)) dNil))))
  (sFz 3 (sRet (dVar 3))))))
abbrev N__law_mixed : List Str := ["_law_d", "_law_row", "_law_left", "_law_found"]
def b__law_plan : DSt :=
  (sSeq (sAsg (dOp dIx (dLstF (dCons (dC (.int 1)) (dCons (dOp dAddF (dC (.int 1)) (dCall sd__law_off (dCons (dVar 0) (dCons (dC (.int 4)) dNil)))) (dCons (dOp dAddF (dC (.int 1)) (dCall sd__law_off (dCons (dVar 0) (dCons (dC (.int 12)) dNil)))) dNil)))) (dCall sd__law_off (dCons (dVar 0) (dCons (dC (.int 3)) dNil)))) (gN 1))
  (sSeq (sAsg (dOp dAddF (dC (.int 1)) (dCall sd__law_off (dCons (dVar 0) (dCons (dOp dIx (dLstF (dCons (dC (.int 6)) (dCons (dC (.int 50)) dNil))) (dCall sd__law_off (dCons (dVar 0) (dCons (dC (.int 2)) dNil)))) dNil)))) (gN 2))
  (sSeq (sAsg (dOp dAddF (dC (.int 1)) (dCall sd__law_off (dCons (dVar 0) (dCons (dOp dIx (dLstF (dCons (dC (.int 20)) (dCons (dC (.int 100)) dNil))) (dCall sd__law_off (dCons (dVar 0) (dCons (dC (.int 2)) dNil)))) dNil)))) (gN 3))
  (sRet (dTup (dCons (dCall sd__law_off (dCons (dVar 0) (dCons (dOp dIx (dLstF (dCons (dC (.int 40)) (dCons (dC (.int 1000)) dNil))) (dCall sd__law_off (dCons (dVar 0) (dCons (dC (.int 2)) dNil)))) dNil))) (dCons (dVar 2) (dCons (dVar 3) (dCons (dVar 1) dNil)))))))))
abbrev N__law_plan : List Str := ["_law_d", "_law_many", "_law_long", "_law_every"]
end Lw
/-! ### the laws' own defs by their readings -/
namespace Lw
open PySem PySem.Spec PyProof.Rows L2 Cc Pl
open PySem.W (EachIs AllAlike Sortable dataLe)
local macro_rules | `(tactic| walk_at "rd") => `(tactic| try simp only [sSeq, sIf, sAsg, sRet, sRetN, sDrop, sNext, gN, gT, gsCons, gsNil, gsNames, wipeD, D.tl, dTest, dAnd, dOr, dNot, dAndV, dOrV, dNotV, dIf, dOp, dUn, dVar, dC, dCons, dNil, dCB, dCall, dTup, dLst, dLstF, dYes, blD_bl, dEq_int, dNe_int, dEq_bl, dNe_bl, dEq_str, dChain, vadd_int, vadd_rol, vadd_tup, vmul_int, vsub_int, vlt_int, vle_int, vgt_int, vge_int, vmax_int, vmin_int, vneg_int, vlen_tup, vlen_rol, vtup_rol, vtup_tup, vlist_rol, vlist_tup, vix_tup, vix_rol, vat_0, vat_1, vat_2, vat_3, vat_4, vat_5, vat_6, vsl_tup, vsl_rol, visi_non_bool, visi_non_int, visi_non_str, visi_non_tuple, visi_non_list, visi_bl_bool, visi_bl_int, visi_bl_str, visi_bl_tuple, visi_bl_list, visi_int_bool, visi_int_int, visi_int_str, visi_int_tuple, visi_int_list, visi_str_bool, visi_str_int, visi_str_str, visi_str_tuple, visi_str_list, visi_tup_bool, visi_tup_int, visi_tup_str, visi_tup_tuple, visi_tup_list, visi_key_bool, visi_key_int, visi_key_str, visi_key_tuple, visi_key_list, visi_rol_bool, visi_rol_int, visi_rol_str, visi_rol_tuple, visi_rol_list, dBM, vtyL, vapp, vlen_upd, vix_upd, vsz_0, vsz_1, vsz_2, vsz_3, vsz_4, vsz_5, vsz_6, vsz_7, vsz_8, vsz_9, dIsN, dNotN, D.isN, List.getElem?_cons_zero, List.getElem?_cons_succ, List.set_cons_zero, List.set_cons_succ, List.length_cons, List.length_nil, decide_eq_true_eq, if_true, if_false, Bool.false_eq_true, ite_true, ite_false, true_and, and_true, Bool.not_true, Bool.not_false])
theorem pure__law_plan (ds : List D) (G : DH) (R : DK) (EX : DX) (h : sd__law_plan ds G R EX) : b__law_plan (endsD (frg R) EX) (startD N__law_plan ds) G := by
  obtain ⟨a, l, rfl, hG, dl, q⟩ := h
  rw [← updD_id hG]
  show b__law_plan (endsD (frg R) EX) [some (.ref a), none, none, none] _
  unfold b__law_plan
  walk_at "rd"
  refine off_use dl (by decide) (by decide) fun r4 l a0 a1 dl => ?_
  walk_at "rd"
  refine off_use dl (by decide) (by decide) fun r12 l b0 b1 dl => ?_
  walk_at "rd"
  refine off_use dl (by decide) (by decide) fun r3 l c0 c1 dl => ?_
  refine menu3 c0 c1 fun many hm => ?_
  refine off_use dl (by decide) (by decide) fun r l h0 h1 dl => ?_
  refine menu2 h0 h1 fun x hx => ?_
  refine off_use dl (by omega) (by omega) fun long l l0 l1 dl => ?_
  walk_at "rd"
  refine off_use dl (by decide) (by decide) fun r l h0 h1 dl => ?_
  refine menu2 h0 h1 fun y hy => ?_
  refine off_use dl (by omega) (by omega) fun every l e0 e1 dl => ?_
  walk_at "rd"
  refine off_use dl (by decide) (by decide) fun r l h0 h1 dl => ?_
  refine menu2 h0 h1 fun z hz => ?_
  refine off_use dl (by omega) (by omega) fun beg l g0 g1 dl => ?_
  exact frg_of (q ⟨beg, 1 + long, 1 + every, many⟩ l (by constructor <;> dsimp only <;> omega) dl)
theorem perm_take {l : List Int} {n : Nat} (h : n < l.length) : (l[n] :: l.eraseIdx n).Perm l := by
  rw [List.eraseIdx_eq_take_drop_succ]
  have e : l = l.take n ++ l[n] :: l.drop (n + 1) := by
    rw [← List.drop_eq_getElem_cons h, List.take_append_drop]
  conv => rhs; rw [e]
  exact List.perm_middle.symm
theorem eraseIdx_map {α β : Type} (f : α → β) : ∀ (l : List α) (n : Nat), (l.map f).eraseIdx n = (l.eraseIdx n).map f
  | [], _ => rfl
  | _ :: _, 0 => rfl
  | x :: l, n + 1 => by
    rw [List.map_cons, List.eraseIdx_cons_succ, List.eraseIdx_cons_succ, List.map_cons, eraseIdx_map f l n]
theorem pure__law_mixed (ds : List D) (G : DH) (R : DK) (EX : DX) (h : sd__law_mixed ds G R EX) : b__law_mixed (endsD (frg R) EX) (startD N__law_mixed ds) G := by
  obtain ⟨a, l, ns, rfl, hG, dl, hn, q⟩ := h
  show b__law_mixed (endsD (frg R) EX) [some (.ref a), some (.rol (ns.map .int)), none, none] _
  unfold b__law_mixed
  walk_at "rd"
  simp only [dListC, seqOf]
  intro p hp
  walk_at "rd"
  intro f hf
  have npa : p ≠ a := Ne.symm (neD hG hp)
  obtain ⟨hf0, nfp⟩ := none_up hf
  have nfa : f ≠ a := Ne.symm (neD hG hf0)
  refine ⟨fun m δ G' => ∃ (l : List D) (left found : List Int), m = left.length ∧ δ = [some (.ref a), some (.rol (ns.map .int)), some (.ref p), some (.ref f)] ∧ Draws l ∧ (found ++ left).Perm ns ∧ G' a = some (.lst l) ∧ G' p = some (.lst (left.map .int)) ∧ G' f = some (.lst (found.map .int)) ∧
    ∀ b c, b ≠ a → G b = some c → G' b = some c, ⟨_, l, ns, [], rfl, rfl, dl, by simp, ?_, ?_, updD_same, ?_⟩, fun m δ G' ⟨l, left, found, em, eδ, dl, hp1, ha, hp', hf', hk⟩ => ?_⟩
  · rw [updD_ne (Ne.symm nfa), updD_ne (Ne.symm npa)]; exact hG
  · rw [updD_ne (Ne.symm nfp)]; exact updD_same
  · intro b c _ hb
    rw [updD_ne (neD hb hf0), updD_ne (neD hb hp)]; exact hb
  · subst em eδ
    have hlen := hp1.length_eq
    rw [List.length_append] at hlen
    walk_at "rd"
    refine neE_at hp' ?_
    walk_at "rd"
    cases left with
    | nil =>
      simp only [List.map_nil, List.isEmpty_nil, Bool.not_true, Bool.false_eq_true, if_false]
      refine sFz_lst (p := f) rfl hf' ?_
      rw [List.append_nil] at hp1
      walk_at "rd"
      refine ⟨updD G a (.lst l), fun b c hb => ?_, q found l hp1 dl⟩
      by_cases hba : b = a
      · subst hba
        rw [updD_same] at hb
        cases hb
        rw [delD_ne (Ne.symm nfa)]
        exact ha
      · rw [updD_ne hba] at hb
        rw [delD_ne (neD hb hf0)]
        exact hk b c hba hb
    | cons x left =>
      simp only [List.map_cons, List.isEmpty_cons, Bool.not_false, if_true]
      walk_at "rd"
      refine ⟨ty_lst hf', ?_⟩
      refine ⟨ty_lst hp', ?_⟩
      refine vlen_at hp' ?_
      have z := sizeLine_eq
      refine off_at ha dl (by simp only [List.length_cons, List.length_map]; omega) (by simp only [List.length_cons, List.length_map] at *; omega) fun r l r0 r1 dl => ?_
      obtain ⟨n, rfl⟩ := Int.eq_ofNat_of_zero_le r0
      have hn2 : n < (x :: left).length := by simp only [List.length_cons, List.length_map] at *; omega
      have hp2 : updD G' a (.lst l) p = some (.lst ((x :: left).map .int)) := by rw [updD_ne npa]; exact hp'
      refine pop_at hp2 rfl (y := .int (x :: left)[n]) (by rw [List.getElem?_map, List.getElem?_eq_getElem hn2]; rfl) (by simp only [List.length_map, List.length_cons] at *; omega) ?_
      refine app_at (l := found.map .int) (by rw [updD_ne nfp, updD_ne nfa]; exact hf') (by rw [List.length_map]; omega) ?_
      refine ⟨left.length, by simp, l, (x :: left).eraseIdx n, found ++ [(x :: left)[n]], ?_, dl, ?_, ?_, ?_, ?_, ?_⟩
      · rw [List.length_eraseIdx_of_lt hn2]; rfl
      · rw [List.append_assoc]
        exact (List.Perm.append_left found (perm_take hn2)).trans hp1
      · rw [updD_ne (Ne.symm nfa), updD_ne (Ne.symm npa)]; exact updD_same
      · rw [updD_ne (Ne.symm nfp), updD_same, eraseIdx_map]
      · rw [updD_same, List.map_append]; rfl
      · intro b c nb hb
        rw [updD_ne (neD hb hf0), updD_ne (neD hb hp), updD_ne nb]
        exact hk b c nb hb
end Lw
/-! ### hands: rows of books as data -/
namespace Hd
open PySem PySem.Spec PyProof.Rows L2 Cc Pl
open PySem.W (EachIs AllAlike Sortable dataLe)
def rowP (r : Pl.Row) : PyData := .tuple [.int r.k, oP r.b, .int r.n]
def ToldG.p (g : ToldG) : PyData := .tuple [.int g.h, oP g.by_, .list (g.words.map .str)]
def Told.p (t : Told) : PyData := .tuple [.int t.host, .int t.number, .int t.version, .str t.note, .int t.long, .list (t.rows.map rowP), .list (t.guests.map ToldG.p)]
theorem rdd_oD' {G : DH} (o : Option Int) : Rdd G (oD o) (oP o) := by
  cases o
  · exact .non
  · exact .int _
theorem oP_lay' (o : Option Int) : (oP o).canLay0 = true := by cases o <;> simp [oP, PyData.canLay0]
theorem oP_dep' (o : Option Int) : (oP o).depth = 0 := by cases o <;> simp [oP, PyData.depth]
theorem oP_lean (o : Option Int) : lean (oP o) = true := by cases o <;> rfl
section
variable {G : DH}
theorem rdd_rowP (r : Pl.Row) : Rdd G r.d (rowP r) := .tup rfl (.cons (.int _) (.cons (rdd_oD' _) (.cons (.int _) .nil)))
theorem rdd_words (ws : List Str) : RddL G (ws.map D.str) (ws.map PyData.str) := rdd_map fun z _ => .str z
theorem rdd_toldG (g : ToldG) : Rdd G g.d g.p := .tup rfl (.cons (.int _) (.cons (rdd_oD' _) (.cons (.rol (rdd_words _)) .nil)))
theorem rdd_told (t : Told) : Rdd G t.d t.p := .tup rfl (.cons (.int _) (.cons (.int _) (.cons (.int _) (.cons (.str _) (.cons (.int _) (.cons (.rol (rdd_map fun r _ => rdd_rowP r)) (.cons (.rol (rdd_map fun g _ => rdd_toldG g)) .nil)))))))
/-- .. its lists at addresses -/
theorem rdd_tat {G0 : DH} {d : D} {t : Told} (h : TAt G0 G d t) : Rdd G d t.p := by
  obtain ⟨q, p, rfl, _, _, h1, h2⟩ := h
  exact .tup rfl (.cons (.int _) (.cons (.int _) (.cons (.int _) (.cons (.str _) (.cons (.int _) (.cons (.lst h1 (rdd_map fun r _ => rdd_rowP r)) (.cons (.lst h2 (rdd_map fun g _ => rdd_toldG g)) .nil)))))))
theorem rddL_tat {G0 : DH} : ∀ {ds : List D} {ts : List Told}, EachIs (TAt G0 G) ds ts → RddL G ds (ts.map Told.p)
  | _, _, .nil => .nil
  | _, _, .cons h t => .cons (rdd_tat h) (rddL_tat t)
end
theorem rowP_dep (r : Pl.Row) : (rowP r).depth ≤ 1 := by simp [rowP, PyData.depth, PyData.depthAll, oP_dep']
theorem toldG_dep (g : ToldG) : g.p.depth ≤ 2 := by
  have : PyData.depthAll (g.words.map PyData.str) ≤ 0 := dep_map fun z _ => by simp [PyData.depth]
  simp [ToldG.p, PyData.depth, PyData.depthAll, oP_dep']
  omega
theorem told_dep (t : Told) : t.p.depth ≤ 4 := by
  have h1 : PyData.depthAll (t.rows.map rowP) ≤ 1 := dep_map fun r _ => rowP_dep r
  have h2 : PyData.depthAll (t.guests.map ToldG.p) ≤ 2 := dep_map fun g _ => toldG_dep g
  simp [Told.p, PyData.depth, PyData.depthAll]
  omega
structure Told.Ok (t : Told) : Prop where
  rows : t.rows.length ≤ 1000
  guests : t.guests.length ≤ 1000
  words : ∀ g ∈ t.guests, g.words.length ≤ 1000
theorem rowP_lean (r : Pl.Row) : lean (rowP r) = true := by simp [rowP, lean, leanAll, oP_lean]
theorem toldG_lean {g : ToldG} (h : g.words.length ≤ 1000) : lean g.p = true := by
  have : leanAll (g.words.map PyData.str) = true := lean_map fun z _ => rfl
  simp [ToldG.p, lean, leanAll, oP_lean, this]
  omega
theorem told_lean {t : Told} (h : t.Ok) : lean t.p = true := by
  have h1 : leanAll (t.rows.map rowP) = true := lean_map fun r _ => rowP_lean r
  have h2 : leanAll (t.guests.map ToldG.p) = true := lean_map fun g hg => toldG_lean (h.words g hg)
  have a := h.rows
  have b := h.guests
  simp [Told.p, lean, leanAll, h1, h2]
  omega
theorem Rec.Inv.told {r : Rec} (h : r.Inv) (host number : Int) (me : Option Int) (mine : Say) : (r.told host number me mine).Ok := by
  have := h.glen
  have := h.plan.m1
  have := h.plan.m0
  refine ⟨?_, ?_, fun g hg => ?_⟩
  · show (rowsOf r.plan r.ones).length ≤ _
    unfold rowsOf
    rw [List.length_map, List.length_range]
    omega
  · show (r.guests.map _).length ≤ _
    rw [List.length_map]; omega
  · obtain ⟨g0, _, rfl⟩ := List.mem_map.mp hg
    show (wordsOf _ _ _ _).length ≤ _
    unfold wordsOf
    rw [List.length_map, List.length_range]
    omega
end Hd
/-! ### x(lambda: ..) -/
namespace Cc
open PySem PySem.Spec PyProof.Rows L2
open LamX (LamS CodeO lamEnv lamCx TabB Tabs ExtN)
section
variable {X : Cx}
def tGive1 (T : List (Addr × Str)) (E : XK) (sp : (XK → Hp → VK → Prop) → Sp) (t : XK → TE) : TE := fun σ H Q => Tabs T H ∧ ∀ H1, ExtN H H1 → Tabs T H1 → sp (fun E' H' Q' => t E' σ H' Q') [] H1 Q E
theorem pe_give1 {T : List (Addr × Str)} {sp : (XK → Hp → VK → Prop) → Sp} {x a : Str} {g c P : Addr} {k : Nat} {pg : Arguments} {bg : List Stmt} {sg : Scope} {dV kV doc pm cdv ct oc : Value} {an od : Option Addr} {osl : Array (Option Value)} {Ng : List Str} {E : XK}
    {params : Arguments} {body : Expr} {scope : Scope} {t : XK → TE} {p lpos pos : Pos} (hg : Gl X x) (hm : X.mg x = some (.ref g)) (hk : PySem.W.keepIn X.K (.ref g) = true)
    (lk : X.K.lookup g = some ⟨oc, od, .func (PySem.W.fnOf x x pg bg sg dV kV doc pm an cdv ct), osl⟩) (hcg : PySem.W.codeIn X.K cdv x = true) (hb : L2.Binds X.K (PySem.W.fnOf x x pg bg sg dV kV doc pm an cdv ct) [a] []) (Sg : FnScope Ng [a] sg) (hNg : Ng[0]? = some a) (hva : Vis sg a)
    (hG : Given X Ng [a] x a sg g cdv bg k (X.env.qual ++ "<lambda>") sp) (hx : Passes (L2N.CX X.prog X.w) X E)
    (TB : TabB X.base X.mg c P) (hcode : X.env.code = .ref c) (hmT : (P, X.env.qual ++ "<lambda>") ∈ T) (hu : ∀ p ∈ T, p.1 = P → p.2 = X.env.qual ++ "<lambda>") (hr : Room (k + 2) X.A) (L : LamS X.env.scope scope) (hdef : defaultsOf params X.env = ([], []))
    (hbind : ∀ (q : Str) (cl : List (Str × Addr)) (pm cv ctv : Value), bindArgs (PySem.W.kla_fn "<lambda>" q params body scope cl pm cv ctv) ⟨[], []⟩ = pure [])
    (hbody : ∀ (A : Around) (outer : List Env) (s : Shared) (H : Hp) (E : XK) (f c' : Addr), Room k (A.deeper (lamEnv X scope s.heap.objs.size f c')) → PE (lamC X A outer s H E scope f c') body (t E))
    (hdb : (x == ("__debug__" : Str)) = false := by decide) (hd : (a == ("__debug__" : Str)) = false := by decide) (hcd : (a == ("__classdict__" : Str)) = false := by decide) :
    PE X (.Call (.Name x p) [.Lambda params body scope lpos] [] pos) (tGive1 T E sp t) := by
  refine ⟨fun pins s σ H Q I ⟨hT, h⟩ => ?_⟩
  refine wpAny_Call_Name_kw (ld_glob I hg hm ?_ hdb)
  refine PySem.W.callWith_K (h₀ := X.base) I.ok.mod.kin hk ?_ (by rfl) (by rfl)
  show wpAny _ _ (spliced ((false, eval (.Lambda params body scope lpos) X.env) :: backTo pos (starEach [] X.env))) _ _ s
  refine Calls.spliced_cons (LamX.lam_make2 I TB hcode hmT hu hT hdef (L.has I.ok) fun f c' pm' ctv H1 s1 I1 eN T1 hf hfn hfr hco => ?_)
  refine Calls.spliced_nil ⟨I1.kIn, ?_⟩
  have rc : codeAny (model X.prog X.w) X.A (.call (.ref g) ⟨[.ref f], []⟩) (CR (L2N.CX X.prog X.w) X.stack X.prog X.w H1 s1 Q E) s1 := by
    refine LamX.run_ofS (N := Ng) (ps := [a]) (us := [.ref f]) (vs := [.ref f]) lk hcg Sg hr I1.env0 (hb _ [.ref f] I1.kIn rfl) (.cons rfl .nil) rfl fun hr' => ?_
    exact hG f c' s1 H1 Q E [] (fun E' H' Q' => t E' σ H' Q') (fun W pn xe p1 p2 tk => pe_thunk (i := 0) I1 L hf hfn hfr (hbind _ _ _ _ _) tk hr' (fun A outer s H E hr2 => hbody A outer s H E f c' hr2) hNg hva hd hcd) (hr'.mono (Nat.le_succ k)) hco (h H1 eN T1)
  refine wpAny_call (codeAny_mono rc fun r s2 hq => ?_)
  cases r with
  | error e => exact hx pins σ H1 _ e s2 I1 hq
  | ok fl =>
    cases fl with
    | ret u => exact I1.after hq
    | next => exact False.elim hq
    | brk => exact False.elim hq
    | cont => exact False.elim hq
/-- the def that is given the lambda promises: it answers True of a lambda that raises C -/
def spBad (K : KT) (C : Addr) (tl : XK → Hp → VK → Prop) : Sp := fun vs H Q _ => vs = [] ∧ ∀ Q' : VK,
  tl (fun cls o H' => cls = .ref C ∧ o = none ∧ ∃ G', HRel K G' H' ∧ ∀ G2 H2, Sub G' G2 → Up H' H2 → HRel K G2 H2 → Q (.bl true) H2) H Q'
theorem pd_bad {E : EK} {x a : Str} {g c P C : Addr} {k : Nat} {pg : Arguments} {bg : List Stmt} {sg : Scope} {fd : FuncData} {Ng : List Str}
    {params : Arguments} {body : Expr} {scope : Scope} {dt : DE} {p lpos pos : Pos} (F : FunD X.K x x pg bg sg [] [] g fd) (hm : X.mg x = some (.ref g)) (Sg : FnScope Ng [a] sg)
    (hbg : ∀ (kV doc pm : Value) (an : Option Addr) (cdv ct : Value) (us : List Value), us.length = 1 → bindArgs (PySem.W.fnOf x x pg bg sg .none kV doc pm an cdv ct) ⟨us, []⟩ = pure (([a] : List Str).zip us))
    (hG : ∀ cdg : Value, Given X Ng [a] x a sg g cdg bg k (X.env.qual ++ "<lambda>") (spBad (kt X E) C)) (hx : Passes (L2N.CX X.prog X.w) X E.1)
    (TB : TabB X.base X.mg c P) (hcode : X.env.code = .ref c) (hmT : (P, X.env.qual ++ "<lambda>") ∈ E.2) (hu : ∀ p ∈ E.2, p.1 = P → p.2 = X.env.qual ++ "<lambda>") (hr : Room (k + 2) X.A) (L : LamS X.env.scope scope) (hdef : defaultsOf params X.env = ([], []))
    (hbind : ∀ (q : Str) (cl : List (Str × Addr)) (pm cv ctv : Value), bindArgs (PySem.W.kla_fn "<lambda>" q params body scope cl pm cv ctv) ⟨[], []⟩ = pure [])
    (hbody : ∀ (A : Around) (outer : List Env) (s : Shared) (H : Hp) (E' : XK) (f c' : Addr), Room k (A.deeper (lamEnv X scope s.heap.objs.size f c')) → PD (lamC X A outer s H E' scope f c') (E', E.2) body dt)
    (hg : Gl X x := by rfl) (hNg : Ng[0]? = some a := by rfl) (hva : Vis sg a := by first | exact .inl rfl | exact .inr (.inl rfl)) (hdb : (x == ("__debug__" : Str)) = false := by decide) (hd : (a == ("__debug__" : Str)) = false := by decide) (hcd : (a == ("__classdict__" : Str)) = false := by decide) :
    PD X E (.Call (.Name x p) [.Lambda params body scope lpos] [] pos) (dRefuse dt C) := by
  have hb := F.bindsN (ps := [a]) hbg
  have kp := F.kp
  obtain ⟨oc, od, dV, kV, doc, pm, an, cdv, ct, osl, rfl, lk, hcd2, hD, _⟩ := F.ex
  refine ⟨imE (pe_give1 (T := E.2) (E := E.1) (t := fun E' => up (kt X E) E' dt) (sp := spBad (kt X E) C) hg hm kp lk hcd2 hb Sg hNg hva (hG cdv) hx TB hcode hmT hu hr L hdef hbind (fun A outer s H E' f c' hr' => (hbody A outer s H E' f c' hr').pe) hdb hd hcd) fun σ H Q ⟨δ, G, R, EX, sr, hG0, h, cr, cx⟩ => ?_⟩
  refine ⟨hG0.t, fun H1 ex tb => ⟨rfl, fun Q' => ?_⟩⟩
  have u1 := extN_up ex
  refine ⟨δ, G, _, _, sr.up u1, extN_h hG0 ex tb, h, fun v H' d G' _ _ _ z => z.elim, fun cls o H' G' u h' ⟨e1, e2, z⟩ => ⟨e1, e2, G', h', fun G2 H2 s u2 h2 => cr _ _ _ _ ((u1.trans u).trans u2) h2 (.bl true) (z G2 s)⟩⟩
end
end Cc
/-! ### lambdas with a default -/
namespace PySem.W
open PySem PySem.Spec PySem.Calls PyProof.Rows
/-- as kla_fn, with defaults -/
abbrev ccl_fn (name qual : Str) (params : Arguments) (body : Expr) (scope : Scope) (cl : List (Str × Addr)) (dV pm cdv ct : Value) : FuncData :=
  { kla_fn name qual params body scope cl pm cdv ct with defaults := dV }
section
variable {M : Model} {A : Around} {E : Value → Shared → Prop} {s : Shared} {nm ql : Str} {pr : Arguments} {bd : Expr} {sc : Scope} {ev : Env} {at_ : Pos} {ln : Nat} {mg : Str → Option Value} {cl : List (Str × Addr)} {dV : Value} {Q : Value → Shared → Prop}
/-- the rest of a def's making: the code object is made, or found (P), the module's dicts are read -/
theorem ccl_tail {P : Value → Shared → Prop} (h0 : closureFor sc ev = pure cl) (h1 : ev.globals = mainGlobals)
    (code : ∀ s1 : Shared, s1 = s ∨ (∃ o, s1 = { s with heap := s.heap.push o }) → ∀ R : Value → Shared → Prop, (∀ cv s2, P cv s2 → R cv s2) → wpAny M A (functionCode ev at_ ln nm ql pr sc (.expr bd)) R E s1)
    (blt : ∀ cv s2, P cv s2 → ∀ R : Addr → Shared → Prop, R builtinsNs s2 → wpAny M A (builtinsFor mainGlobals ev.builtins) R E s2)
    (mod : ∀ cv s2, P cv s2 → ∀ R : Option Value → Shared → Prop, R (mg "__name__") s2 → wpAny M A (nsGet mainGlobals "__name__") R E s2)
    (done : ∀ cv ctv s2, P cv s2 → Q (.ref s2.heap.objs.size) { s2 with heap := s2.heap.push { cls := .type "function", data := .func (ccl_fn nm ql pr bd sc cl dV ((mg "__name__").getD .none) cv ctv) } }) :
    wpAny M A (makeTail nm ql pr (.expr bd) sc ev dV .none none at_ ln) Q E s := by
  have last : ∀ (ctv : Value) (s1 : Shared), s1 = s ∨ (∃ o, s1 = { s with heap := s.heap.push o }) → wpAny M A (do
      let cd ← functionCode ev at_ ln nm ql pr sc (.expr bd)
      let bs ← builtinsFor mainGlobals ev.builtins
      let md ← nsGet mainGlobals "__name__"
      newObj (.type "function") (.func { name := nm, qualname := ql, params := pr, body := .expr bd, scope := sc, globals := mainGlobals, closure := cl, closureTuple := ctv, code := cd, builtins := bs, defaults := dV, kwdefaults := .none, annotations := none, pyModule := md.getD .none, doc := .none })) Q E s1 := fun ctv s1 hs =>
    wpAny_bind (code s1 hs _ fun cv s2 hp => wpAny_bind (blt cv s2 hp _ (wpAny_bind (mod cv s2 hp _ (wpAny_newObj_type (done cv ctv s2 hp) (by size_fits))))))
  unfold makeTail
  rw [h0, h1]
  refine wpAny_bind (wpAny_pure ?_)
  by_cases hc : cl.isEmpty = true
  · rw [if_pos hc]
    exact wpAny_bind (wpAny_pure (last _ s (.inl rfl)))
  · rw [if_neg hc]
    exact wpAny_bind (wpAny_newTextTuple (last _ _ (.inr ⟨_, rfl⟩)))
end
section
variable {M : Model} {A : Around} {E : Value → Shared → Prop} {s : Shared}
theorem ccl_eval {Q : Value → Shared → Prop} {env : Env} {params : Arguments} {body : Expr} {scope : Scope} {pos : Pos} {n : Int} {j : Nat} {p : Pos} (hdef : defaultsOf params env = ([eval (.Constant (.int n) j p) env], [])) (hkw : params.kwonlyargs = [])
    (h : ∀ (t : Tok) (tk : Nat), wpAny M A (makeTail "<lambda>" (env.qual ++ "<lambda>") params (.expr body) scope env (.ref s.heap.objs.size) .none none pos pos.line) Q E { s with heap := s.heap.push { cls := .type "tuple", data := .seq #[.int n t] }, toks := tk }) :
    wpAny M A (eval (.Lambda params body scope pos) env) Q E s := by
  rw [arm_eval_Lambda, hdef]
  show wpAny M A (do let dv ← evalAll [eval (.Constant (.int n) j p) env]; let kdv ← holding dv (evalAllOpt []); makeFunction "<lambda>" (env.qual ++ "<lambda>") params (.expr body) scope env dv kdv [] pos pos.line) Q E s
  refine wpAny_bind ?_
  show wpAny M A (do let v ← eval (.Constant (.int n) j p) env; return v :: (← holding [v] (evalAll []))) _ E s
  refine wpAny_bind (wpAny_Constant_int ?_)
  refine wpAny_bind (wpAny_holding (wpAny_pure (wpAny_pure ?_)))
  refine wpAny_bind (wpAny_holding (wpAny_pure ?_))
  rw [makeFunction_eq, hkw]
  simp only [List.zip_nil_left, List.filterMap_nil, List.isEmpty_nil, List.isEmpty_cons, if_true, Bool.false_eq_true, if_false, pure_bind]
  refine wpAny_bind (wpAny_newTextTuple ?_)
  exact h _ _
end
end PySem.W
/-! ### lambdas with a default: made -/
namespace Cc
open PySem PySem.Spec PyProof.Rows L2
open LamX (LamS CodeO lamEnv lamCx TabB Tabs ExtN inv_table codeO_ne)
section
variable {X : Cx} {pins : List (Addr × Obj)} {σ : L2.St} {H : Hp} {s : Shared}
/-- lambda a=n: .. -/
theorem lam_makeD {T : List (Addr × Str)} {c P : Addr} {params : Arguments} {body : Expr} {scope : Scope} {pos : Pos} {n : Int} {j : Nat} {p : Pos} {E : Value → Shared → Prop} {Q : Value → Shared → Prop} (I : Inv X pins σ H s) (TB : TabB X.base X.mg c P) (hcode : X.env.code = .ref c)
    (hm : (P, X.env.qual ++ "<lambda>") ∈ T) (hu : ∀ p ∈ T, p.1 = P → p.2 = X.env.qual ++ "<lambda>") (hT : Tabs T H) (hdef : defaultsOf params X.env = ([eval (.Constant (.int n) j p) X.env], [])) (hkw : params.kwonlyargs = []) (hfree : ∀ y ∈ scope.names, y.2 = .free → ∃ c, X.env.cells.lookup y.1 = some c)
    (q : ∀ (f c' dt : Addr) (pm ctv : Value) (H1 : Hp) (s' : Shared), Inv X pins σ H1 s' → ExtN H H1 → Tabs T H1 → (∃ t : Tok, s'.heap.get? dt = some { cls := .type "tuple", data := .seq #[.int n t] }) → H1 dt = none → dt ∉ frs X.stack →
      s'.heap.get? f = some { cls := .type "function", data := .func (PySem.W.ccl_fn "<lambda>" (X.env.qual ++ "<lambda>") params body scope (cloFrom X.env.cells scope.names []) (.ref dt) pm (.ref c') ctv) } → H1 f = none → f ∉ frs X.stack → H1 c' = some (CodeO c' (X.env.qual ++ "<lambda>")) → Q (.ref f) s') :
    wpAny (model X.prog X.w) X.A (eval (.Lambda params body scope pos) X.env) Q E s := by
  refine PySem.W.ccl_eval hdef hkw fun t tk => ?_
  have nD : H s.heap.objs.size = none := I.hok.fresh (Nat.le_refl _)
  have I1 : Inv X pins σ H { s with heap := s.heap.push { cls := .type "tuple", data := .seq #[.int n t] }, toks := tk } := I.kept (t' := tk) fun _ _ e => Heap.get?_push_of_some _ e
  have gD : ({ s with heap := s.heap.push { cls := .type "tuple", data := .seq #[.int n t] }, toks := tk } : Shared).heap.get? s.heap.objs.size = some { cls := .type "tuple", data := .seq #[.int n t] } := Heap.get?_push_size _ rfl
  have frD : s.heap.objs.size ∉ frs X.stack := fun z => by
    rcases List.mem_cons.mp (I.stkSub _ z) with e | e
    · have h1 := I.lt
      rw [← e] at h1
      exact Nat.lt_irrefl _ h1
    · exact I.nofs (Nat.le_refl _) e
  generalize s.heap.objs.size = dt at nD gD frD ⊢
  generalize ({ s with heap := s.heap.push { cls := .type "tuple", data := .seq #[.int n t] }, toks := tk } : Shared) = s1 at I1 gD ⊢
  have T1 := hT
  have ltD : dt < s1.heap.objs.size := Heap.lt_size gD
  obtain ⟨ps, hP, ht, ha⟩ := T1 _ hm
  have bP : s1.heap.BuiltinsAt X.mg P := TB.bm.keeps I1.bk
  have hP' : s1.heap.get? P = some { cls := .none, data := .fields ps } := I1.hok P _ hP
  have CH := TB.code.keeps I1.bk
  have nofr : ∀ f, s1.heap.objs.size ≤ f → f ∉ frs X.stack := fun f hf z => by
    rcases List.mem_cons.mp (I1.stkSub _ z) with e | e
    · have h1 := I1.lt
      rw [← e] at h1
      exact Nat.lt_irrefl _ (Nat.lt_of_lt_of_le h1 hf)
    · exact I1.nofs hf e
  have gl := I1.mod.glob.keeps I1.bk
  obtain ⟨bm, ob, hbm, hne0, _, hneP, hbo, hcls, hdict, hdata⟩ := bP
  cases hc : codeAmong pos ps.toList with
  | some cv =>
    obtain ⟨c', e, hco⟩ := ha pos cv hc
    subst e
    refine PySem.W.ccl_tail (mg := X.mg) (P := fun cv s2 => cv = .ref c' ∧ ∃ h', (∀ b o, s1.heap.get? b = some o → h'.get? b = some o) ∧ s1.heap.objs.size ≤ h'.objs.size ∧ s2 = { s1 with heap := h' }) (closure_ok hfree) I1.ok.glob (fun s2 hs R hR => ?_)
      (fun cv s2 ⟨_, h', hk, _, e⟩ R hR => by subst e; exact wpAny_builtinsFor (gl.keeps hk) hbm hne0 (hk _ _ hbo) hcls hdict hdata hR)
      (fun cv s2 ⟨_, h', hk, _, e⟩ R hR => by subst e; exact wpAny_nsGet (gl.keeps hk) hR) (fun cv ctv s2 ⟨e1, h', hk, hz, e⟩ => ?_)
    · rcases hs with rfl | ⟨o, rfl⟩
      · exact wpAny_functionCode_hit hcode (CH.code hP' ht) hc (hR _ _ ⟨rfl, _, fun _ _ e => e, Nat.le_refl _, rfl⟩)
      · exact wpAny_functionCode_hit hcode ((CH.keeps fun b o e => Heap.get?_push_of_some _ e).code (Heap.get?_push_of_some _ hP') ht) hc (hR _ _ ⟨rfl, _, fun _ _ e => Heap.get?_push_of_some _ e, by rw [Heap.size_push]; omega, rfl⟩)
    · subst e1 e
      exact q h'.objs.size c' dt _ ctv H _ (I1.kept (t' := s1.toks) fun b o e => Heap.get?_push_of_some _ (hk b o e)) (ExtN.refl H) T1 ⟨t, Heap.get?_push_of_some _ (hk _ _ gD)⟩ nD frD (Heap.get?_push_size _ rfl) (I1.hok.fresh hz) (nofr _ hz) hco
  | none =>
    refine PySem.W.ccl_tail (mg := X.mg) (P := fun cv s2 => ∃ c' h' tk, cv = .ref c' ∧ s2 = { s1 with heap := h', toks := tk } ∧ Heap.ExtBut P s1.heap h' ∧ s1.heap.objs.size ≤ c' ∧ c' < h'.objs.size ∧ h'.CodeRec (.ref c') (X.env.qual ++ "<lambda>") ∧ h'.get? P = some { cls := .none, data := .fields (ps ++ #[rawInt pos.line, rawInt pos.col, .ref c']) }) (closure_ok hfree) I1.ok.glob (fun s2 hs R hR => ?_)
      (fun cv s2 ⟨c', h', tk, _, e, hx, _⟩ R hR => by subst e; exact wpAny_builtinsFor (gl.extBut hx TB.gP) hbm hne0 (hx _ _ hneP hbo) hcls hdict hdata hR)
      (fun cv s2 ⟨c', h', tk, _, e, hx, _⟩ R hR => by subst e; exact wpAny_nsGet (gl.extBut hx TB.gP) hR) (fun cv ctv s2 ⟨c', h', tk, e1, e, hx, hge, hlt, hrec, htb⟩ => ?_)
    · rcases hs with rfl | ⟨o, rfl⟩
      · exact wpAny_functionCodeX hcode (CH.code hP' ht) (CH.tab hP') hc fun c' h' tk hx hge hlt _ hrec htb _ => hR _ _ ⟨c', h', tk, rfl, rfl, hx, hge, hlt, hrec, htb.2⟩
      · refine wpAny_functionCodeX hcode ((CH.keeps fun b o e => Heap.get?_push_of_some _ e).code (Heap.get?_push_of_some _ hP') ht) ((CH.keeps fun b o e => Heap.get?_push_of_some _ e).tab (Heap.get?_push_of_some _ hP')) hc fun c' h' tk hx hge hlt _ hrec htb _ => hR _ _ ⟨c', h', tk, rfl, rfl, fun b o hb e => hx b o hb (Heap.get?_push_of_some _ e), Nat.le_trans (by rw [Heap.size_push]; omega) hge, hlt, hrec, htb.2⟩
    · subst e1 e
      obtain ⟨c2, oc, vs, t2, e2, hoc, hd, hv⟩ := hrec
      cases e2
      have hsz : s1.heap.objs.size ≤ h'.objs.size := Nat.le_trans hge (Nat.le_of_lt hlt)
      have nC : H c' = none := I1.hok.fresh hge
      have I2 := inv_table (t' := tk) (more := #[rawInt pos.line, rawInt pos.col, .ref c']) (h' := h'.push { cls := .type "function", data := .func (PySem.W.ccl_fn "<lambda>" (X.env.qual ++ "<lambda>") params body scope (cloFrom X.env.cells scope.names []) (.ref dt) ((X.mg "__name__").getD .none) (.ref c') ctv) }) I1 hP
        (fun b o hb e => Heap.get?_push_of_some _ (hx b o hb e)) (Heap.get?_push_of_some _ htb) hge ⟨oc, vs, t2, Heap.get?_push_of_some _ hoc, hd, hv⟩
      have hE : ExtN H (upd (upd H P (.tbl (ps ++ #[rawInt pos.line, rawInt pos.col, .ref c']))) c' (CodeO c' (X.env.qual ++ "<lambda>"))) := fun b o e n => by
        rw [upd_ne (ne_of_none e nC), upd_ne (fun z => n ps (Option.some.inj (e.symm.trans (by rw [z]; exact hP))))]
        exact e
      have nDP : dt ≠ P := fun z => by
        rw [z, hP'] at gD
        cases gD
      have eL : (ps ++ #[rawInt pos.line, rawInt pos.col, .ref c']).toList = ps.toList ++ [rawInt pos.line, rawInt pos.col, .ref c'] := by simp
      refine q h'.objs.size c' dt _ ctv _ _ I2 hE (fun p hp => ?_) ⟨t, Heap.get?_push_of_some _ (hx _ _ nDP gD)⟩ (by rw [upd_ne (Nat.ne_of_lt (Nat.lt_of_lt_of_le ltD hge)), upd_ne nDP]; exact nD) frD (Heap.get?_push_size _ rfl) ?_ (nofr _ hsz) upd_same
      · by_cases hb : p.1 = P
        · rw [hu p hp hb, hb]
          refine ⟨_, by rw [upd_ne (ne_of_none hP nC), upd_same], by rw [eL]; exact PySem.TriplesOk_snoc _ _ _ _ ht, fun p' cv hcv => ?_⟩
          rw [eL] at hcv
          rcases LamX.among_app _ ht hcv with z | z
          · obtain ⟨c0, e1, e2⟩ := ha p' cv z
            exact ⟨c0, e1, hE _ _ e2 codeO_ne⟩
          · exact ⟨c', z, upd_same⟩
        · obtain ⟨ps', a1, a2, a3⟩ := T1 p hp
          refine ⟨ps', by rw [upd_ne (ne_of_none a1 nC), upd_ne hb]; exact a1, a2, fun p' cv hcv => ?_⟩
          obtain ⟨c0, e1, e2⟩ := a3 p' cv hcv
          exact ⟨c0, e1, hE _ _ e2 codeO_ne⟩
      · have n1 : h'.objs.size ≠ c' := Nat.ne_of_gt hlt
        have n2 : h'.objs.size ≠ P := Nat.ne_of_gt (Nat.lt_of_lt_of_le (Heap.lt_size hP') hsz)
        rw [upd_ne n1, upd_ne n2]
        exact I1.hok.fresh hsz
end
end Cc
/-! ### lambdas with a default: called -/
namespace Cc
open PySem PySem.Spec PyProof.Rows L2
open LamX (LamS CodeO lamEnv lamCx TabB Tabs ExtN)
/-- one parameter of its own, which the outer def doesn't know; captured names and globals besides -/
structure LamS1 (sc scope : Scope) (N : List Str) : Prop where
  kind : scope.kind = .function
  co : scope.isCoroutine = false
  gen : scope.isGenerator = false
  cel : ∀ y ∈ scope.names, y.2 ≠ .cell
  own : ∀ y ∈ scope.names, y.2 = .local → y.1 ∉ N
  free : ∀ y ∈ scope.names, y.2 = .free → sc.names.lookup y.1 = some .cell ∨ sc.names.lookup y.1 = some .free
section
variable {X : Cx} {pins : List (Addr × Obj)} {σ : L2.St} {H HZ : Hp} {s s1 : Shared}
theorem LamS1.has {scope : Scope} (L : LamS1 X.env.scope scope X.N) (ok : X.Ok) {y : Str × NameKind} (hy : y ∈ scope.names) (e : y.2 = .free) : ∃ c, X.env.cells.lookup y.1 = some c :=
  (L.free y hy e).elim (fun k => ok.has _ (.inl k)) fun k => ok.has _ (.inr k)
theorem lam_startD {A : Around} {outer : List Env} {E : XK} {scope : Scope} {f c' : Addr} {g : Heap} {tk : Nat} {m : Str → Option Value} (I : Inv X pins σ H s) (L : LamS1 X.env.scope scope X.N) (e0 : Env0 X.prog X.w X.K X.mg X.base A outer s1 HZ) (hd : A.handled = none)
    (un : Un (frs X.stack) [] H HZ s.heap s1.heap) (hns : g.Ns s1.heap.objs.size m) (kp : ∀ b o, s1.heap.get? b = some o → g.get? b = some o) :
    Inv (lamCx X A outer s1 HZ E scope f c') [] σ HZ { s1 with heap := g, toks := tk } := by
  have inO : ∀ {y c}, (cloFrom X.env.cells scope.names []).lookup y = some c → X.env.cells.lookup y = some c := fun {y c} e => by
    rcases cloFrom_mem (PySem.mem_of_lookup e) with z | ⟨z1, z2⟩
    · cases z
    · obtain ⟨b, hb⟩ := L.has I.ok z1 rfl
      have hb : X.env.cells.lookup y = some b := hb
      rw [hb] at z2
      rw [hb, show c = b from z2]
  have ofF : ∀ {y}, scope.names.lookup y = some .free → ∃ c, (cloFrom X.env.cells scope.names []).lookup y = some c := fun {y} hl => mem_lookup (cloFrom_has (cells := X.env.cells) (acc := []) (PySem.mem_of_lookup hl))
  have cel : ∀ {c : Addr} {v : Option Value}, H c = none → s.heap.IsCell c v → g.IsCell c v := fun {c v} n ⟨o, ho, hdt⟩ => by
    obtain ⟨sl, z⟩ := un.any ho n (by simp)
    exact ⟨_, kp _ _ z, hdt⟩
  have no : ∀ b : Addr, b ∉ (lamCx X A outer s1 HZ E scope f c').ex := fun b z => absurd (show b ∈ ([] : List Addr) from z) (by simp)
  have okL : (lamCx X A outer s1 HZ E scope f c').Ok := by
    refine ⟨e0.mod, L.kind, rfl, rfl, Nat.le_refl _, fun y z c a b => I.ok.inj y z c (inO a) (inO b), fun y hy => ?_, (fun y c z _ => by cases (show false = true from z)), fun _ => hd, Around.frames_deeper e0.frames, .inr ⟨rfl, rfl⟩, fun b z => absurd z (no b), e0.bs, e0.bsz, fun b _ _ => no b, fun b z => absurd z (no b), e0.funs, e0.frf⟩
    rcases (show scope.names.lookup y = some .cell ∨ scope.names.lookup y = some .free from hy) with hy | hy
    · exact absurd rfl (L.cel _ (PySem.mem_of_lookup hy))
    · exact ofF hy
  have look : ∀ (i : Nat) (y : Str) (v : V), X.N[i]? = some y → σ[i]? = some (some v) → Vis scope y → ∃ u, RelV v u ∧ Look (lamEnv X scope s1.heap.objs.size f c') g m y u := fun i y v hy hv vis => by
    rcases vis with k | k | k
    · exact absurd (List.mem_of_getElem? hy) (L.own _ (PySem.mem_of_lookup k) rfl)
    · exact absurd rfl (L.cel _ (PySem.mem_of_lookup k))
    · obtain ⟨_, _, hl⟩ := I.loc
      have kk := L.free _ (PySem.mem_of_lookup k) rfl
      obtain ⟨u, ru, lu⟩ := hl i y v hy hv (kk.elim (fun z => .inr (.inl z)) fun z => .inr (.inr z))
      obtain ⟨b, hb⟩ := ofF k
      refine ⟨u, ru, .inr ⟨.inr k, b, hb, ?_⟩⟩
      rcases lu with ⟨kl, _⟩ | ⟨_, b', hb', z⟩
      · have kl : X.env.scope.names.lookup y = some .local := kl
        rcases kk with z | z
        · rw [show X.env.scope.names.lookup y = _ from z] at kl; cases kl
        · rw [show X.env.scope.names.lookup y = _ from z] at kl; cases kl
      · rw [inO hb] at hb'
        cases hb'
        exact cel (I.freeC y _ (inO hb)) z
  exact ⟨okL, rfl, e0.bare, Un.kept kp, ⟨m, hns, look⟩, fun y c e => let ⟨v, z⟩ := I.cell y c (inO e); ⟨v, cel (I.freeC y c (inO e)) z⟩, e0.hok.fresh (Nat.le_refl _), fun y c e => let ⟨_, o, ho, _⟩ := I.cell y c (inO e); un.free c o ho (I.freeC y c (inO e)) (by simp),
    fun q hq => absurd (show q ∈ ([] : List (Addr × Obj)) ++ [] from hq) (by simp), e0.hok.kept kp, I.len⟩
/-- the binding of no argument: the default -/
def BindsD (fd : Value → Value → Value → Value → FuncData) (x : Str) : Prop := ∀ (dt : Addr) (pm cv ctv : Value), ∃ K : Option (Array Value) → Sem (List (Str × Value)), bindArgs (fd (.ref dt) pm cv ctv) ⟨[], []⟩ = (seqItems? (.ref dt) >>= K) ∧ ∀ v, K (some #[v]) = pure [(x, v)]
/-- x(), the lambda has a default -/
theorem pe_thunkD {Eg : XK} {Ng : List Str} {qg : Str} {sg : Scope} {g f c' dt : Addr} {cdg pm ctv : Value} {params : Arguments} {body : Expr} {scope : Scope} {k i : Nat} {a x : Str} {n : Int} {t : Tok} {pn : List (Addr × Obj)} {xe : Value → Shared → Prop} {W : WX} {tl : XK → TE} {p1 p2 : Pos}
    (I : Inv X pins σ H s) (L : LamS1 X.env.scope scope X.N) (hlx : scope.names.lookup x = some .local) (hf : s.heap.get? f = some { cls := .type "function", data := .func (PySem.W.ccl_fn "<lambda>" (X.env.qual ++ "<lambda>") params body scope (cloFrom X.env.cells scope.names []) (.ref dt) pm (.ref c') ctv) }) (hfn : H f = none) (hfr : f ∉ frs X.stack)
    (hdt : s.heap.get? dt = some { cls := .type "tuple", data := .seq #[.int n t] }) (hdn : H dt = none) (hdr : dt ∉ frs X.stack)
    (hbind : BindsD (fun dV pm cv ctv => PySem.W.ccl_fn "<lambda>" (X.env.qual ++ "<lambda>") params body scope (cloFrom X.env.cells scope.names []) dV pm cv ctv) x)
    (tk : L2N.Takes ((cxOf (L2N.CX X.prog X.w) X.prog X.w X.K X.mg X.base Ng qg sg g cdg X.A X.stack s H Eg).tr pn xe) W) (hr : Room (k + 1) (X.A.deeper (envOfC qg sg s.heap.objs.size g cdg)))
    (hbody : ∀ (A : Around) (outer : List Env) (s : Shared) (H : Hp) (E : XK), Room k (A.deeper (lamEnv X scope s.heap.objs.size f c')) → PE (lamC X A outer s H E scope f c') body (tl E))
    (hN : Ng[i]? = some a) (hv : Vis sg a) (hd : (a == ("__debug__" : Str)) = false := by decide) (hcd : (a == ("__classdict__" : Str)) = false := by decide) :
    PE ((cxOf (L2N.CX X.prog X.w) X.prog X.w X.K X.mg X.base Ng qg sg g cdg X.A X.stack s H Eg).tr pn xe) (.Call (.Name a p1) [] [] p2)
      (fun σZ HZ Q => σZ[i]? = some (some (.ref f)) ∧ HZ c' = some (CodeO c' (X.env.qual ++ "<lambda>")) ∧ ∃ Ech : XK, (∀ cls d H', Ech cls d H' → W cls d σZ H') ∧ tl Ech σ HZ Q) := by
  refine ⟨fun pz sz σz Hz Q Iz ⟨h1, h2, Ech, hW, h3⟩ => wpAny_Call_Name_kw (thn ((pe_var (pos := p1) (i := i) hN hv hd hcd).run pz sz σz Hz (fun v H1 => v = .ref f ∧ H1 = Hz) Iz ⟨.ref f, h1, rfl, rfl⟩) fun u s1 ⟨v, H1, I1, r1, ev, eH⟩ => ?_)⟩
  subst ev
  rw [eH] at I1
  obtain rfl : u = Value.ref f := r1
  have un : Un (frs X.stack) [] H Hz s.heap s1.heap := I1.base
  have gf := un.keep f _ hf hfn hfr (fun z => nomatch (show f ∈ ([] : List Addr) from z))
  have gd := un.keep dt _ hdt hdn hdr (fun z => nomatch (show dt ∈ ([] : List Addr) from z))
  refine PySem.W.callWith_F0 ⟨_, _, _, _, gf⟩ ?_
  obtain ⟨⟨oc, vs, t2, hoc, hdc, hvc⟩, _, _⟩ := I1.hok c' _ h2
  have go : codeAny (model X.prog X.w) (X.A.deeper (envOfC qg sg s.heap.objs.size g cdg)) (.call (.ref f) ⟨[], []⟩) (CR (L2N.CX X.prog X.w) (envOfC qg sg s.heap.objs.size g cdg :: X.stack) X.prog X.w Hz s1 Q Ech) s1 := by
    refine PySem.W.kla_callFunE hr.depth gf rfl L.co L.gen rfl ⟨c', oc, vs, t2, rfl, hoc, hdc, hvc⟩ ?_
    obtain ⟨K, e1, e2⟩ := hbind dt pm (.ref c') ctv
    rw [e1]
    refine wpAny_bind ?_
    show wpAny _ _ (load dt >>= _) _ _ s1
    refine wpAny_bind (wpAny_load gd (wpAny_pure ?_))
    rw [e2]
    refine wpAny_pure (wpAny_newFunctionEnv (fun y hy => L.cel y hy) (fun y hy => by rw [List.mem_singleton.mp hy]; exact hlx) (fun h₁ hns hsb => ⟨I1.nolimit.fresh _ hsb, ?_⟩) L.kind)
    have kp : ∀ b o, s1.heap.get? b = some o → h₁.get? b = some o := fun b o e => hsb.extBut b o (Nat.ne_of_lt (Heap.lt_size e)) (Heap.get?_push_of_some _ e)
    have J0 := lam_startD (f := f) (c' := c') (E := Ech) (A := X.A.deeper (envOfC qg sg s.heap.objs.size g cdg)) (outer := envOfC qg sg s.heap.objs.size g cdg :: X.stack) (tk := s1.toks + ([(x, .int n t)] : List (Str × Value)).length) I L I1.env0 hr.hd un hns kp
    have J := J0.toTry fun e s' => wpAny (model X.prog X.w) ((X.A.deeper (envOfC qg sg s.heap.objs.size g cdg)).deeper (lamEnv X scope s1.heap.objs.size f c')) (leaving (lamEnv X scope s1.heap.objs.size f c') e) (fun _ s2 => L2N.CX X.prog X.w (envOfC qg sg s.heap.objs.size g cdg :: X.stack) Hz s1 Ech e s2) (fun e2 s2 => L2N.CX X.prog X.w (envOfC qg sg s.heap.objs.size g cdg :: X.stack) Hz s1 Ech e2 s2) s'
    show codeAny _ _ (.expr body (lamEnv X scope s1.heap.objs.size f c')) _ _
    refine PySem.W.kla_codeExpr (wpAny_mono ((hbody _ _ s1 Hz Ech (hr.deeper _)).run [] _ _ Hz Q J h3) (fun v s' ⟨w', H', J', rv, q⟩ => ⟨w', H', J'.os, J'.bare, J'.base, J'.hok, rv, q⟩) fun e s' hq => hq)
  refine wpAny_call (codeAny_mono go fun r s' hq => ?_)
  cases r with
  | error e => exact tk e s' (L2N.XE.of_call I1 (fun cls d H' z => hW cls d H' z) hq)
  | ok fl =>
    cases fl with
    | ret u => exact I1.after hq
    | next => exact False.elim hq
    | brk => exact False.elim hq
    | cont => exact False.elim hq
end
end Cc
/-! ### x(lambda a=n: ..) -/
namespace Cc
open PySem PySem.Spec PyProof.Rows L2
open LamX (LamS CodeO lamEnv lamCx TabB Tabs ExtN)
section
variable {X : Cx}
theorem pe_give1D {T : List (Addr × Str)} {sp : (XK → Hp → VK → Prop) → Sp} {x a b : Str} {g c P : Addr} {k : Nat} {pg : Arguments} {bg : List Stmt} {sg : Scope} {dV kV doc pm cdv ct oc : Value} {an od : Option Addr} {osl : Array (Option Value)} {Ng : List Str} {E : XK}
    {params : Arguments} {body : Expr} {scope : Scope} {t : XK → TE} {p lpos pos p0 : Pos} {n : Int} {j : Nat} (hg : Gl X x) (hm : X.mg x = some (.ref g)) (hk : PySem.W.keepIn X.K (.ref g) = true)
    (lk : X.K.lookup g = some ⟨oc, od, .func (PySem.W.fnOf x x pg bg sg dV kV doc pm an cdv ct), osl⟩) (hcg : PySem.W.codeIn X.K cdv x = true) (hb : L2.Binds X.K (PySem.W.fnOf x x pg bg sg dV kV doc pm an cdv ct) [a] []) (Sg : FnScope Ng [a] sg) (hNg : Ng[0]? = some a) (hva : Vis sg a)
    (hG : Given X Ng [a] x a sg g cdv bg k (X.env.qual ++ "<lambda>") sp) (hx : Passes (L2N.CX X.prog X.w) X E)
    (TB : TabB X.base X.mg c P) (hcode : X.env.code = .ref c) (hmT : (P, X.env.qual ++ "<lambda>") ∈ T) (hu : ∀ p ∈ T, p.1 = P → p.2 = X.env.qual ++ "<lambda>") (hr : Room (k + 2) X.A) (L : LamS1 X.env.scope scope X.N) (hlb : scope.names.lookup b = some .local) (hdef : defaultsOf params X.env = ([eval (.Constant (.int n) j p0) X.env], [])) (hkw : params.kwonlyargs = [])
    (hbind : BindsD (fun dV pm cv ctv => PySem.W.ccl_fn "<lambda>" (X.env.qual ++ "<lambda>") params body scope (cloFrom X.env.cells scope.names []) dV pm cv ctv) b)
    (hbody : ∀ (A : Around) (outer : List Env) (s : Shared) (H : Hp) (E : XK) (f c' : Addr), Room k (A.deeper (lamEnv X scope s.heap.objs.size f c')) → PE (lamC X A outer s H E scope f c') body (t E))
    (hdb : (x == ("__debug__" : Str)) = false := by decide) (hd : (a == ("__debug__" : Str)) = false := by decide) (hcd : (a == ("__classdict__" : Str)) = false := by decide) :
    PE X (.Call (.Name x p) [.Lambda params body scope lpos] [] pos) (tGive1 T E sp t) := by
  refine ⟨fun pins s σ H Q I ⟨hT, h⟩ => ?_⟩
  refine wpAny_Call_Name_kw (ld_glob I hg hm ?_ hdb)
  refine PySem.W.callWith_K (h₀ := X.base) I.ok.mod.kin hk ?_ (by rfl) (by rfl)
  show wpAny _ _ (spliced ((false, eval (.Lambda params body scope lpos) X.env) :: backTo pos (starEach [] X.env))) _ _ s
  refine Calls.spliced_cons (lam_makeD I TB hcode hmT hu hT hdef hkw (fun y hy e => L.has I.ok hy e) fun f c' dt pm' ctv H1 s1 I1 eN T1 ⟨t0, gd⟩ hdn hdr hf hfn hfr hco => ?_)
  refine Calls.spliced_nil ⟨I1.kIn, ?_⟩
  have rc : codeAny (model X.prog X.w) X.A (.call (.ref g) ⟨[.ref f], []⟩) (CR (L2N.CX X.prog X.w) X.stack X.prog X.w H1 s1 Q E) s1 := by
    refine LamX.run_ofS (N := Ng) (ps := [a]) (us := [.ref f]) (vs := [.ref f]) lk hcg Sg hr I1.env0 (hb _ [.ref f] I1.kIn rfl) (.cons rfl .nil) rfl fun hr' => ?_
    exact hG f c' s1 H1 Q E [] (fun E' H' Q' => t E' σ H' Q') (fun W pn xe p1 p2 tk => pe_thunkD (i := 0) I1 L hlb hf hfn hfr gd hdn hdr hbind tk hr' (fun A outer s H E hr2 => hbody A outer s H E f c' hr2) hNg hva hd hcd) (hr'.mono (Nat.le_succ k)) hco (h H1 eN T1)
  refine wpAny_call (codeAny_mono rc fun r s2 hq => ?_)
  cases r with
  | error e => exact hx pins σ H1 _ e s2 I1 hq
  | ok fl =>
    cases fl with
    | ret u => exact I1.after hq
    | next => exact False.elim hq
    | brk => exact False.elim hq
    | cont => exact False.elim hq
theorem pd_badD {E : EK} {x a b : Str} {g c P C : Addr} {k : Nat} {pg : Arguments} {bg : List Stmt} {sg : Scope} {fd : FuncData} {Ng : List Str}
    {params : Arguments} {body : Expr} {scope : Scope} {dt : DE} {p lpos pos p0 : Pos} {n : Int} {j : Nat} (F : FunD X.K x x pg bg sg [] [] g fd) (hm : X.mg x = some (.ref g)) (Sg : FnScope Ng [a] sg)
    (hbg : ∀ (kV doc pm : Value) (an : Option Addr) (cdv ct : Value) (us : List Value), us.length = 1 → bindArgs (PySem.W.fnOf x x pg bg sg .none kV doc pm an cdv ct) ⟨us, []⟩ = pure (([a] : List Str).zip us))
    (hG : ∀ cdg : Value, Given X Ng [a] x a sg g cdg bg k (X.env.qual ++ "<lambda>") (spBad (kt X E) C)) (hx : Passes (L2N.CX X.prog X.w) X E.1)
    (TB : TabB X.base X.mg c P) (hcode : X.env.code = .ref c) (hmT : (P, X.env.qual ++ "<lambda>") ∈ E.2) (hu : ∀ p ∈ E.2, p.1 = P → p.2 = X.env.qual ++ "<lambda>") (hr : Room (k + 2) X.A) (L : LamS1 X.env.scope scope X.N) (hlb : scope.names.lookup b = some .local) (hdef : defaultsOf params X.env = ([eval (.Constant (.int n) j p0) X.env], [])) (hkw : params.kwonlyargs = [])
    (hbind : BindsD (fun dV pm cv ctv => PySem.W.ccl_fn "<lambda>" (X.env.qual ++ "<lambda>") params body scope (cloFrom X.env.cells scope.names []) dV pm cv ctv) b)
    (hbody : ∀ (A : Around) (outer : List Env) (s : Shared) (H : Hp) (E' : XK) (f c' : Addr), Room k (A.deeper (lamEnv X scope s.heap.objs.size f c')) → PD (lamC X A outer s H E' scope f c') (E', E.2) body dt)
    (hg : Gl X x := by rfl) (hNg : Ng[0]? = some a := by rfl) (hva : Vis sg a := by first | exact .inl rfl | exact .inr (.inl rfl)) (hdb : (x == ("__debug__" : Str)) = false := by decide) (hd : (a == ("__debug__" : Str)) = false := by decide) (hcd : (a == ("__classdict__" : Str)) = false := by decide) :
    PD X E (.Call (.Name x p) [.Lambda params body scope lpos] [] pos) (dRefuse dt C) := by
  have hb := F.bindsN (ps := [a]) hbg
  have kp := F.kp
  obtain ⟨oc, od, dV, kV, doc, pm, an, cdv, ct, osl, rfl, lk, hcd2, hD, _⟩ := F.ex
  refine ⟨imE (pe_give1D (T := E.2) (E := E.1) (t := fun E' => up (kt X E) E' dt) (sp := spBad (kt X E) C) hg hm kp lk hcd2 hb Sg hNg hva (hG cdv) hx TB hcode hmT hu hr L hlb hdef hkw hbind (fun A outer s H E' f c' hr' => (hbody A outer s H E' f c' hr').pe) hdb hd hcd) fun σ H Q ⟨δ, G, R, EX, sr, hG0, h, cr, cx⟩ => ?_⟩
  refine ⟨hG0.t, fun H1 ex tb => ⟨rfl, fun Q' => ?_⟩⟩
  have u1 := extN_up ex
  refine ⟨δ, G, _, _, sr.up u1, extN_h hG0 ex tb, h, fun v H' d G' _ _ _ z => z.elim, fun cls o H' G' u h' ⟨e1, e2, z⟩ => ⟨e1, e2, G', h', fun G2 H2 s u2 h2 => cr _ _ _ _ ((u1.trans u).trans u2) h2 (.bl true) (z G2 s)⟩⟩
end
def lamS1B (sc scope : Scope) (N : List Str) : Bool :=
  decide (scope.kind = .function) && !scope.isCoroutine && !scope.isGenerator && scope.names.all fun y => !decide (y.2 = .cell) && ((!decide (y.2 = .local) || !decide (y.1 ∈ N)) && (!decide (y.2 = .free) || decide (sc.names.lookup y.1 = some .cell) || decide (sc.names.lookup y.1 = some .free)))
theorem lamS1_by {sc scope : Scope} {N : List Str} (h : lamS1B sc scope N = true) : LamS1 sc scope N := by
  unfold lamS1B at h
  simp only [Bool.and_eq_true, Bool.or_eq_true, Bool.not_eq_true', decide_eq_true_eq, decide_eq_false_iff_not, List.all_eq_true] at h
  obtain ⟨⟨⟨h1, h2⟩, h3⟩, h4⟩ := h
  refine ⟨h1, h2, h3, fun y hy => (h4 y hy).1, fun y hy e => ?_, fun y hy e => ?_⟩
  · rcases (h4 y hy).2.1 with z | z
    · exact absurd e z
    · exact z
  · rcases (h4 y hy).2.2 with (z | z) | z
    · exact absurd e z
    · exact .inl z
    · exact .inr z
end Cc
/-! ### k03: _law_is_bad answers True of a lambda that raises BadHand -/
namespace K03
open PySem PySem.Spec PyProof.Rows L2 Cc
def top (i : Nat) : Stmt := PySem.Challenge.pw_crosscalls_k03_a_host_alone.main.body.getD i (.Pass ⟨0, 0, 0, 0⟩)
abbrev s_bad : Stmt := top 45
abbrev N_bad : List Str := ["_law_work", "e"]
theorem sc_bad : FnScope N_bad ["_law_work"] (defScope s_bad) := ⟨rfl, rfl, rfl, by decide +kernel, rfl, by decide +kernel, by decide +kernel⟩
structure TxB (K : PySem.W.Frag) (mg : Str → Option Value) where
  aE : Addr
  aH : Addr
  cE : mg "CallError" = some (.ref aE)
  cH : GloC K mg "BadHand" (.ref aH)
  f_isinstance : mg "isinstance" = none
def suiteOf : Stmt → List Stmt
  | .Try _ [.ExceptHandler _ _ b _] _ _ _ => b
  | _ => []
abbrev suite : List Stmt := suiteOf ((defBody s_bad).getD 0 (.Pass ⟨0, 0, 0, 0⟩))
def b_suite (K : PySem.W.Frag) (a C aH : Addr) : DSt := sRet (dCB (dIsE K a C) (dCons (dVar 1) (dCons (dC (.ref aH)) dNil)))
section
variable {X : Cx} {g : Addr} {cdg : Value} {s : Shared} {H : Hp} {E : XK} {T : List (Addr × Str)}
theorem bd_suite (Tx : TxB X.K X.mg) {a C : Addr} {oe : Obj} {pn : List (Addr × Obj)} (hC : ExcC X.K C) (hz : L2N.Zn (.ref C) none oe) (hf : ∃ vs, oe.data = .fields vs) :
    PDSs ((gotC X N_bad "_law_is_bad" (defScope s_bad) g cdg s H E).suite a ((a, oe) :: pn)) (noE, T) suite (b_suite X.K a C Tx.aH) := by
  have nd : (N_bad).Nodup := sc_bad.nd
  have hi := cd_isE (X := gotC X N_bad "_law_is_bad" (defScope s_bad) g cdg s H E) (a := a) (pn := pn) hC hz.zc hf
  exact (pdss_one (pds_ret (pd_blt hi Tx.f_isinstance (by decide +kernel) (pda_cons (pd_var 1 (pv 1)) (pda_cons (pd_glob (by rfl) Tx.cH) pda_nil)))))
end
theorem given_bad {X : Cx} {T : List (Addr × Str)} (Tx : TxB X.K X.mg) {g C : Addr} {cdg : Value} {k : Nat} {q : Str} (hC : ExcC X.K C) (kit : PySem.W.kitOne X.K (.ref C) (.ref Tx.aH) = some true) (hx : PySem.W.exmOne X.K (.ref C) (.ref Tx.aE) = some true) :
    Given X N_bad ["_law_work"] "_law_is_bad" "_law_work" (defScope s_bad) g cdg (defBody s_bad) k q (spBad (X.K, T) C) := by
  intro f c' s H Q E vs tl hact hr hc ⟨ev, ht⟩
  subst ev
  have nd : (N_bad).Nodup := sc_bad.nd
  have tk : L2N.Takes (gotC X N_bad "_law_is_bad" (defScope s_bad) g cdg s H E) (fun cls d _ H => E cls d H) := L2N.takes_of rfl rfl rfl rfl
  refine ⟨_, pss_cons (L2N.ps_try_as (i := 1) (c := .ref Tx.aE) (Wout := fun cls d _ H => E cls d H) (tb := fun W => tDrop (ActT f c' q W tl))
      (ts := fun a cls d D σ H => ∃ C, cls = .ref C ∧ d = none ∧ ExcC X.K C ∧ upS (X.K, T) noE (b_suite X.K a C Tx.aH) D σ H)
      rfl rfl nd rfl rfl ⟨by rfl, by decide, .inl Tx.cE⟩ tk (fun W pn xe tkW _ => pss_one (ps_expr (hact W pn xe _ _ tkW))) fun a oe cls d pn hz hf => ?_) (pss_one (ps_ret pe_bl)), ?_⟩
  · refine ⟨fun pins s1 σ1 H1 D1 I1 ⟨C1, e1, e2, hC1, h1⟩ => ?_⟩
    subst e1 e2
    exact (bd_suite (T := T) Tx hC1 hz hf).ps.run pins s1 σ1 H1 D1 I1 h1
  · refine (show ActT f c' q _ tl _ H _ from ⟨rfl, hc, (fun cls o H' => cls = .ref C ∧ o = none ∧ ∃ G', HRel (X.K, T) G' H' ∧ ∀ G2 H2, Sub G' G2 → Up H' H2 → HRel (X.K, T) G2 H2 → Q (.bl true) H2), fun cls o H' ⟨e1, e2, G', hG', hq⟩ => ?_, ht _⟩)
    subst e1 e2
    refine ⟨true, hx, fun _ a na => ⟨C, rfl, rfl, hC, ?_⟩, fun z => by cases z⟩
    have sr : SRel (X.K, T) H' ((L2.start N_bad [.ref f]).set 1 (some (.ref a))) [none, some (.ref a)] := ⟨rfl, fun i d e => by
      match i, e with
      | 1, e => cases e; exact ⟨_, rfl, .ref a⟩
      | 0, e => cases e
      | n + 2, e => simp at e⟩
    refine ⟨_, G', { nx := fun _ _ => False, rt := fun d G2 => d = .bl true ∧ Sub G' G2 }, sr, hG', ?_, fun _ _ _ _ _ _ _ z => z.elim, fun v2 H2 d G2 u2 h2 r2 ⟨e, s2⟩ => ?_, fun _ _ _ _ _ _ _ z => z.elim, fun _ _ _ _ _ _ _ z => z.elim, fun _ _ _ _ _ _ z => z.elim⟩
    · exact ⟨rfl, _, _, rfl, kit, rfl, Sub.refl _⟩
    · subst e
      cases r2
      exact hq G2 H2 s2 u2 h2
end K03
/-! ### k03: the model, promises -/
namespace K03
open PySem PySem.Spec PyProof.Rows L2 Cc Pl Hd Lw
open K02 (Ch chD after some_ dueRow due_rows)
/-- a meeting as the law notes it -/
structure M where
  a : Addr
  plan : Plan
  guests : List Int
  version : Int
  note : Str
  chs : List Ch
  is : Bool
def M.kvs (m : M) (j : Nat) : List (Key × D) := [(Sum.inr "number", .int j), (Sum.inr "plan", m.plan.d), (Sum.inr "guests", .rol (m.guests.map .int)), (Sum.inr "version", .int m.version), (Sum.inr "note", .str m.note), (Sum.inr "changes", .rol (m.chs.map chD)), (Sum.inr "is", .bl m.is)]
structure Wd where
  d : Addr
  a : Addr
  o : Addr
  c : Addr
  lo : Addr
  ys : List LH
  ms : List M
def Wd.hand (w : Wd) : LHand := ⟨w.a, w.o, w.c, 5, w.ys, []⟩
inductive Tg | draws | hand | own | calls | low | hosted (j : Nat) | recd (j : Nat) | heard (j : Nat) | known (j : Nat) | m (j : Nat)
deriving DecidableEq
def cells (ca : CA) (w : Wd) (l : List D) : Tg → Option (Addr × C)
  | .draws => some (w.d, .lst l)
  | .hand => some (w.a, .ins ca.Hand w.hand.fs)
  | .own => some (w.o, .lst (w.ys.map fun y => .ref y.h))
  | .calls => some (w.c, .dT [])
  | .low => some (w.lo, .lst (w.ms.map fun m => .ref m.a))
  | .hosted j => w.ys[j]?.map fun y => (y.h, .ins ca.Hosted y.fs)
  | .recd j => w.ys[j]?.map fun y => (y.r, .ins ca.Record y.rc.fs)
  | .heard j => w.ys[j]?.map fun y => (y.hd, .dK (kvI Say.d y.heard))
  | .known j => w.ys[j]?.map fun y => (y.kn, .dK (kvI .int y.known))
  | .m j => w.ms[j]?.map fun m => (m.a, .dK (m.kvs j))
/-- .. the draws may be any -/
def At (ca : CA) (G : DH) (w : Wd) : Prop := ∃ l, Draws l ∧ AtF G (cells ca w l)
/-- the meeting in the hand is as the law notes it -/
structure Rel (y : LH) (m : M) : Prop where
  inv : y.rc.Inv
  version : y.rc.version = m.version
  over : y.rc.over = !m.is
  plan : y.rc.plan = m.plan
  note : y.rc.note = m.note
  ones : y.rc.ones = after m.chs
  guests : y.rc.guests = m.guests.map fun g => (g, none)
  says : ∀ s ∈ y.rc.says, s.2 = nothing
  heard : y.heard = []
  knd : (y.known.map (·.1)).Nodup
  k8 : ∀ k ∈ y.known.map (·.1), 0 ≤ k ∧ k < 8
  g5 : ∀ g ∈ m.guests, g ≠ 5
structure Gd (w : Wd) (n : Nat) : Prop where
  len : w.ys.length = w.ms.length
  few : w.ms.length ≤ 20
  rel : ∀ (j : Nat) y m, w.ys[j]? = some y → w.ms[j]? = some m → Rel y m
  chs : ∀ m ∈ w.ms, m.chs.length ≤ n
def sd__law_changed (ca : CA) : SpD := fun ds G R _ => ∃ (w : Wd) (j n : Nat) (m : M), ds = [.ref w.d, .ref w.a, .ref m.a] ∧ At ca G w ∧ Gd w n ∧ n ≤ 200 ∧ w.ms[j]? = some m ∧ m.is = true ∧
  ∀ w' G', w'.d = w.d → w'.a = w.a → w'.lo = w.lo → At ca G' w' → Gd w' (n + 1) → R (.bl true) G'
def M.told (m : M) (j : Nat) : Told := ⟨5, j, m.version, m.note, m.plan.l, (List.range m.plan.m.toNat).map (dueRow m.plan m.chs), m.guests.map fun g => ⟨g, none, List.replicate m.plan.m.toNat "asked"⟩⟩
def sd__law_told : SpD := fun ds G R _ => ∃ (m : M) (j : Nat), ds = [.ref m.a] ∧ G m.a = some (.dK (m.kvs j)) ∧ m.plan.Ok ∧ m.chs.length ≤ 1000 ∧ m.guests.length ≤ 1000 ∧ R (m.told j).d G
theorem Rel.ok {y : LH} {m : M} (h : Rel y m) : y.Ok := ⟨h.inv.ok, h.knd, by
  have := nd_len h.knd h.k8
  rw [List.length_map] at this
  have e : (8 - 0 : Int).toNat = 8 := rfl
  omega⟩
end K03
/-! ### k03: readings -/
namespace K03
open PySem PySem.Spec PyProof.Rows L2 Cc Pl Hd
def b__law_changed (ca : CA) : DSt :=
  (sSeq (sAsg (dOp dIx (dVar 2) (dC (.str "number"))) (gN 3))
  (sSeq (sAsg (dCall sd__law_off (dCons (dVar 0) (dCons (dC (.int 7)) dNil))) (gN 4))
  (sSeq (sAsg (dCall sd__law_off (dCons (dVar 0) (dCons (dOp dIx (dOp dIx (dVar 2) (dC (.str "plan"))) (dC (.int 3))) dNil))) (gN 5))
  (sSeq (sAsg (dCall sd__law_off (dCons (dVar 0) (dCons (dC (.int 1000)) dNil))) (gN 6))
  (sSeq (sIf (dTest (dOp dLt (dVar 4) (dC (.int 2)))) (sSeq (sDrop (dMeth ca.Hand "move" (sd_Hand_move ca) (dVar 1) (dCons (dVar 3) (dCons (dVar 6) dNil))))
  (sSeq (sAsg (dOp dAddF (dTup (dCons (dVar 6) dNil)) (dSl sSlF (dOp dIx (dVar 2) (dC (.str "plan"))) (oSome (dC (.int 1))) oNo)) (gS (dVar 2) (dC (.str "plan")) dSetD))
  (sSeq (sAsg (dOp dAddF (dOp dIx (dVar 2) (dC (.str "version"))) (dC (.int 1))) (gS (dVar 2) (dC (.str "version")) dSetD))
  (sAsg (dLstF dNil) (gS (dVar 2) (dC (.str "changes")) dSetD))))) (sIf (dTest (dOp dLt (dVar 4) (dC (.int 4)))) (sSeq (sAsg (dOp dIx (dLstF (dCons (dVar 6) (dCons (dC .non) dNil))) (dCall sd__law_off (dCons (dVar 0) (dCons (dC (.int 2)) dNil)))) (gN 6))
  (sSeq (sDrop (dMeth ca.Hand "move_one" (sd_Hand_move_one ca) (dVar 1) (dCons (dVar 3) (dCons (dVar 5) (dCons (dVar 6) dNil)))))
  (sAsg (dOp dAddF (dOp dIx (dVar 2) (dC (.str "changes"))) (dLstF (dCons (dTup (dCons (dVar 5) (dCons (dVar 6) dNil))) dNil))) (gS (dVar 2) (dC (.str "changes")) dSetD)))) (sIf (dTest (dOp dEq (dVar 4) (dC (.int 4)))) (sSeq (sAsg (dOp dIx (dLstF (dCons (dC (.str "")) (dCons (dC (.str "q")) (dCons (dC (.str "abcdefghij")) (dCons (dC (.str "mnoprstuvw")) (dCons (dC (.str "klxyz")) dNil)))))) (dCall sd__law_off (dCons (dVar 0) (dCons (dC (.int 5)) dNil)))) (gS (dVar 2) (dC (.str "note")) dSetD))
  (sDrop (dMeth ca.Hand "rename" (sd_Hand_rename ca) (dVar 1) (dCons (dVar 3) (dCons (dOp dIx (dVar 2) (dC (.str "note"))) dNil))))) (sSeq (sAsg (dOp dIx (dLstF (dCons (dC (.int 1)) (dCons (dC (.int 3)) (dCons (dC (.int 7)) dNil)))) (dCall sd__law_off (dCons (dVar 0) (dCons (dC (.int 3)) dNil)))) (gN 7))
  (sSeq (sIf (dTest (dOp dIn (dVar 7) (dOp dIx (dVar 2) (dC (.str "guests"))))) (sSeq (sDrop (dMeth ca.Hand "uninvite" (sd_Hand_uninvite ca) (dVar 1) (dCons (dVar 3) (dCons (dVar 7) dNil))))
  (sAsg (dLcF (iSq (dOp dIx (dVar 2) (dC (.str "guests")))) (gN 8) (dTest (dOp dNe (dVar 8) (dVar 7))) (dVar 8) [8]) (gS (dVar 2) (dC (.str "guests")) dSetD))) (sSeq (sDrop (dMeth ca.Hand "invite" (sd_Hand_invite ca) (dVar 1) (dCons (dVar 3) (dCons (dVar 7) dNil))))
  (sAsg (dCB dSortedF (dCons (dOp dAddF (dOp dIx (dVar 2) (dC (.str "guests"))) (dLstF (dCons (dVar 7) dNil))) dNil)) (gS (dVar 2) (dC (.str "guests")) dSetD))))
  (sSeq (sIf (dTest (dOp dIn (dVar 7) (dOp dIx (dVar 2) (dC (.str "guests"))))) (sRet (dRefuse (dMeth ca.Hand "invite" (sd_Hand_invite ca) (dVar 1) (dCons (dVar 3) (dCons (dVar 7) dNil))) ca.BadHand)) sNext)
  (sRet (dRefuse (dMeth ca.Hand "uninvite" (sd_Hand_uninvite ca) (dVar 1) (dCons (dVar 3) (dCons (dVar 7) dNil))) ca.BadHand))))))))
  (sRet (dC (.bl true))))))))
abbrev N__law_changed : List Str := ["_law_d", "_law_hand", "_law_m", "_law_number", "_law_kind", "_law_k", "_law_begin", "_law_other", "_law_one"]
def b__law_told : DSt :=
  (sSeq (sAsg (dLst dNil) (gN 1))
  (sSeq (sFor (iRange1 (dOp dIx (dOp dIx (dVar 0) (dC (.str "plan"))) (dC (.int 3)))) (gN 2) (sSeq (sAsg (dLcF (iSq (dOp dIx (dVar 0) (dC (.str "changes")))) (gT 2 (gsNames [4, 5])) (dTest (dOp dEq (dVar 4) (dVar 2))) (dVar 5) [4, 5]) (gN 3))
  (sDrop (dBM "list" mAppend (dVar 1) (dCons (dTup (dCons (dVar 2) (dCons (dIf (dTest (dOp dNeE (dVar 3) (dLstF dNil))) (dOp dIx (dVar 3) (dUn dNeg (dC (.int 1)))) (dOp dAddF (dOp dIx (dOp dIx (dVar 0) (dC (.str "plan"))) (dC (.int 0))) (dOp dMulF (dVar 2) (dOp dIx (dOp dIx (dVar 0) (dC (.str "plan"))) (dC (.int 2)))))) (dCons (dCB dLen (dCons (dVar 3) dNil)) dNil)))) dNil)))))
  (sSeq (sAsg (dLcF (iSq (dOp dIx (dVar 0) (dC (.str "guests")))) (gN 4) dYes (dTup (dCons (dVar 4) (dCons (dC .non) (dCons (dOp dMulF (dLstF (dCons (dC (.str "asked")) dNil)) (dOp dIx (dOp dIx (dVar 0) (dC (.str "plan"))) (dC (.int 3)))) dNil)))) [4]) (gN 6))
  (sFz 1 (sRet (dTup (dCons (dC (.int 5)) (dCons (dOp dIx (dVar 0) (dC (.str "number"))) (dCons (dOp dIx (dVar 0) (dC (.str "version"))) (dCons (dOp dIx (dVar 0) (dC (.str "note"))) (dCons (dOp dIx (dOp dIx (dVar 0) (dC (.str "plan"))) (dC (.int 1))) (dCons (dVar 1) (dCons (dVar 6) dNil)))))))))))))
abbrev N__law_told : List Str := ["_law_m", "_law_found", "_law_k", "_law_some", "_law_one", "_law_begin", "_law_guests"]
def callS (ca : CA) : DSt :=
  (sSeq (sAsg (dCall Lw.sd__law_plan (dCons (dVar 1) dNil)) (gN 9))
  (sSeq (sAsg (dSl sSlF (dCall Lw.sd__law_mixed (dCons (dVar 1) (dCons (dLstF (dCons (dC (.int 0)) (dCons (dC (.int 1)) (dCons (dC (.int 2)) (dCons (dC (.int 3)) (dCons (dC (.int 4)) (dCons (dC (.int 6)) (dCons (dC (.int 7)) dNil)))))))) dNil))) oNo (oSome (dCall sd__law_off (dCons (dVar 1) (dCons (dC (.int 7)) dNil))))) (gN 10))
  (sSeq (sAsg (dMeth ca.Hand "call" (sd_Hand_call ca) (dVar 2) (dCons (dVar 9) (dCons (dCB dTupC (dCons (dVar 10) dNil)) dNil))) (gT 2 (gsCons (gN 11) (gsCons (gN 12) gsNil))))
  (sSeq (sIf (dNot (dTest (dCall (sd__law_alike 6) (dCons (dVar 11) (dCons (dCB dLen (dCons (dVar 3) dNil)) dNil))))) (sRet (dC (.bl false))) sNext)
  (sSeq (sDrop (dBM "list" mAppend (dVar 3) (dCons (dDisp ((Sum.inr "number", (dVar 11)) :: ((Sum.inr "plan", (dVar 9)) :: ((Sum.inr "guests", (dCB dSortedF (dCons (dVar 10) dNil))) :: ((Sum.inr "version", (dC (.int 1))) :: ((Sum.inr "note", (dC (.str ""))) :: [])))))) dNil)))
  (sDrop (dBM "dict" mUpd (dOp dIx (dVar 3) (dUn dNeg (dC (.int 1)))) (dCons (dLstF (dCons (dTup (dCons (dC (.str "changes")) (dCons (dLstF dNil) dNil))) (dCons (dTup (dCons (dC (.str "is")) (dCons (dC (.bl true)) dNil))) dNil))) dNil))))))))
def deedS (ca : CA) : DSt :=
  (sIf (dTest (dOp dNeE (dVar 7) (dLstF dNil))) (sSeq (sAsg (dOp dIx (dVar 7) (dCall sd__law_off (dCons (dVar 1) (dCons (dCB dLen (dCons (dVar 7) dNil)) dNil)))) (gN 8))
  (sIf (dTest (dOp dEq (dCall sd__law_off (dCons (dVar 1) (dCons (dC (.int 9)) dNil))) (dC (.int 0)))) (sSeq (sDrop (dMeth ca.Hand "call_off" (sd_Hand_call_off ca) (dVar 2) (dCons (dOp dIx (dVar 8) (dC (.str "number"))) dNil)))
  (sAsg (dC (.bl false)) (gS (dVar 8) (dC (.str "is")) dSetD))) (sIf (dNot (dTest (dCall (sd__law_changed ca) (dCons (dVar 1) (dCons (dVar 2) (dCons (dVar 8) dNil)))))) (sRet (dC (.bl false))) sNext))) sNext)
def thereS : DSt :=
  (sAsg (dLcF (iSq (dVar 3)) (gN 8) (dTest (dOp dIx (dVar 8) (dC (.str "is")))) (dVar 8) [8]) (gN 7))
def spoilS : DSt :=
  (sFor (iSq (dVar 14)) (gN 15) (sSeq (sDrop (dBM "list" mAppend (dOp dIx (dVar 15) (dC (.int 5))) (dCons (dTup dNil) dNil)))
  (sDrop (dBM "list" mClear (dOp dIx (dVar 15) (dC (.int 6))) dNil))))
def bookS (ca : CA) : DSt :=
  (sFor (iRange1 (dC (.int 2))) (gN 13) (sSeq (sAsg (dMeth ca.Hand "book" (sd_Hand_book' ca) (dVar 2) dNil) (gN 14))
  (sSeq (sIf (dNot (dTest (dCall (sd__law_alike 6) (dCons (dVar 14) (dCons (dLcF (iSq (dVar 3)) (gN 8) (dTest (dOp dIx (dVar 8) (dC (.str "is")))) (dCall sd__law_told (dCons (dVar 8) dNil)) [8]) dNil))))) (sRet (dC (.bl false))) sNext)
  (sSeq spoilS
  (sDrop (dBM "list" mAppend (dVar 14) (dCons (dTup dNil) dNil)))))))
def turnS (ca : CA) : DSt :=
  (sFor (iRange1 (dCall sd__law_off (dCons (dVar 1) (dCons (dOp dMulF (dC (.int 8)) (dVar 4)) dNil)))) (gN 6) (sSeq thereS
  (sSeq (sIf (dAnd (dTest (dOp dLt (dCB dLen (dCons (dVar 3) dNil)) (dVar 4))) (dOr (dTest (dOp dEqE (dVar 7) (dLstF dNil))) (dTest (dOp dEq (dCall sd__law_off (dCons (dVar 1) (dCons (dVar 5) dNil))) (dC (.int 0)))))) (callS ca) (deedS ca))
  (bookS ca))))
def b_law (ca : CA) : DSt :=
  (sSeq (sAsg (dCall sd__law_dice (dCons (dVar 0) (dCons (dC (.int 0)) dNil))) (gN 1))
  (sSeq (sAsg (dMake ca.Hand (sd_Hand__init_ ca) (dCons (dC (.int 5)) dNil)) (gN 2))
  (sSeq (sAsg (dLst dNil) (gN 3))
  (sSeq (sAsg (dOp dIx (dLstF (dCons (dTup (dCons (dC (.int 5)) (dCons (dC (.int 4)) dNil))) (dCons (dTup (dCons (dC (.int 5)) (dCons (dC (.int 4)) dNil))) (dCons (dTup (dCons (dC (.int 20)) (dCons (dC (.int 2)) dNil))) dNil)))) (dCall sd__law_off (dCons (dVar 1) (dCons (dC (.int 3)) dNil)))) (gT 2 (gsCons (gN 4) (gsCons (gN 5) gsNil))))
  (sSeq (turnS ca)
  (sRet (dC (.bl true))))))))
abbrev N_law : List Str := ["_law_script", "_law_d", "_law_hand", "_law_own", "_law_most", "_law_often", "_law_turn", "_law_there", "_law_m", "_law_plan_here", "_law_guests", "_law_number", "_law_letters", "_law_again", "_law_found", "_law_row"]
end K03
/-! ### k03: what the law notes, told -/
namespace K03
open PySem PySem.Spec PyProof.Rows L2 Cc Pl Hd Lw
open PySem.W (EachIs AllAlike Sortable dataLe)
open K02 (Ch chD after some_ dueRow due_rows)
local macro_rules | `(tactic| walk_at "rd") => `(tactic| try simp only [sSeq, sIf, sAsg, sRet, sRetN, sDrop, sNext, gN, gT, gsCons, gsNil, gsNames, wipeD, D.tl, dTest, dAnd, dOr, dNot, dAndV, dOrV, dNotV, dIf, dOp, dUn, dVar, dC, dCons, dNil, dCB, dCall, dTup, dLst, dLstF, dYes, blD_bl, dEq_int, dNe_int, dEq_bl, dNe_bl, dEq_str, dChain, vadd_int, vadd_rol, vadd_tup, vmul_int, vsub_int, vlt_int, vle_int, vgt_int, vge_int, vmax_int, vmin_int, vneg_int, vlen_tup, vlen_rol, vtup_rol, vtup_tup, vlist_rol, vlist_tup, vix_tup, vix_rol, vat_0, vat_1, vat_2, vat_3, vat_4, vat_5, vat_6, vsl_tup, vsl_rol, visi_non_bool, visi_non_int, visi_non_str, visi_non_tuple, visi_non_list, visi_bl_bool, visi_bl_int, visi_bl_str, visi_bl_tuple, visi_bl_list, visi_int_bool, visi_int_int, visi_int_str, visi_int_tuple, visi_int_list, visi_str_bool, visi_str_int, visi_str_str, visi_str_tuple, visi_str_list, visi_tup_bool, visi_tup_int, visi_tup_str, visi_tup_tuple, visi_tup_list, visi_key_bool, visi_key_int, visi_key_str, visi_key_tuple, visi_key_list, visi_rol_bool, visi_rol_int, visi_rol_str, visi_rol_tuple, visi_rol_list, dBM, vtyL, vapp, vlen_upd, vix_upd, vsz_0, vsz_1, vsz_2, vsz_3, vsz_4, vsz_5, vsz_6, vsz_7, vsz_8, vsz_9, dIsN, dNotN, D.isN, List.getElem?_cons_zero, List.getElem?_cons_succ, List.set_cons_zero, List.set_cons_succ, List.length_cons, List.length_nil, decide_eq_true_eq, if_true, if_false, Bool.false_eq_true, ite_true, ite_false, true_and, and_true, Bool.not_true, Bool.not_false])
local macro_rules | `(tactic| walk_at "hd") => `(tactic| try simp only [sSeq, sIf, sAsg, sRet, sRetN, sDrop, sNext, gN, gT, gsCons, gsNil, gsNames, wipeD, D.tl, dTest, dAnd, dOr, dNot, dAndV, dOrV, dNotV, dIf, dOp, dUn, dVar, dC, dCons, dNil, dCB, dCall, dTup, dLst, dLstF, dYes, blD_bl, dEq_int, dNe_int, dEq_bl, dNe_bl, dEq_str, dChain, vadd_int, vadd_rol, vadd_tup, vmul_int, vsub_int, vlt_int, vle_int, vgt_int, vge_int, vmax_int, vmin_int, vneg_int, vlen_tup, vlen_rol, vtup_rol, vtup_tup, vlist_rol, vlist_tup, vix_tup, vix_rol, vat_0, vat_1, vat_2, vat_3, vat_4, vat_5, vat_6, vsl_tup, vsl_rol, visi_non_bool, visi_non_int, visi_non_str, visi_non_tuple, visi_non_list, visi_bl_bool, visi_bl_int, visi_bl_str, visi_bl_tuple, visi_bl_list, visi_int_bool, visi_int_int, visi_int_str, visi_int_tuple, visi_int_list, visi_str_bool, visi_str_int, visi_str_str, visi_str_tuple, visi_str_list, visi_tup_bool, visi_tup_int, visi_tup_str, visi_tup_tuple, visi_tup_list, visi_key_bool, visi_key_int, visi_key_str, visi_key_tuple, visi_key_list, visi_rol_bool, visi_rol_int, visi_rol_str, visi_rol_tuple, visi_rol_list, dBM, vtyL, vapp, vlen_upd, vix_upd, vsz_0, vsz_1, vsz_2, vsz_3, vsz_4, vsz_5, vsz_6, vsz_7, vsz_8, vsz_9, dIsN, dNotN, D.isN, List.getElem?_cons_zero, List.getElem?_cons_succ, List.set_cons_zero, List.set_cons_succ, List.length_cons, List.length_nil, decide_eq_true_eq, if_true, if_false, Bool.false_eq_true, ite_true, ite_false, true_and, and_true, Bool.not_true, Bool.not_false, dFld, sFldD, gF, dMeth, dMake, dTupP, dSl, oSome, oNo, updD_same, updD_updD, lk_stamp, lk_version, lk_over, lk_plan, lk_note, lk_ones, lk_guests, lk_says, lk_grow, lk_move, lk_move_one, lk_add, lk_drop, lk_hear, lk_rows, lk_told, lk_hands, lk_say_of, lk_parts, pf_stamp, pf_version, pf_over, pf_plan, pf_note, pf_ones, pf_ones0, pf_guests, pf_says, fs_len, lt8, vsl_plan, pf_plan2, vix_plan1, vix_plan3])
local macro_rules | `(tactic| walk_at "wd") => `(tactic| try simp only [sSeq, sIf, sAsg, sRet, sRetN, sDrop, sNext, gN, gT, gsCons, gsNil, gsNames, wipeD, D.tl, dTest, dAnd, dOr, dNot, dAndV, dOrV, dNotV, dIf, dOp, dUn, dVar, dC, dCons, dNil, dCB, dCall, dTup, dLst, dLstF, dYes, blD_bl, dEq_int, dNe_int, dEq_bl, dNe_bl, dEq_str, dChain, vadd_int, vadd_rol, vadd_tup, vmul_int, vsub_int, vlt_int, vle_int, vgt_int, vge_int, vmax_int, vmin_int, vneg_int, vlen_tup, vlen_rol, vtup_rol, vtup_tup, vlist_rol, vlist_tup, vix_tup, vix_rol, vat_0, vat_1, vat_2, vat_3, vat_4, vat_5, vat_6, vsl_tup, vsl_rol, visi_non_bool, visi_non_int, visi_non_str, visi_non_tuple, visi_non_list, visi_bl_bool, visi_bl_int, visi_bl_str, visi_bl_tuple, visi_bl_list, visi_int_bool, visi_int_int, visi_int_str, visi_int_tuple, visi_int_list, visi_str_bool, visi_str_int, visi_str_str, visi_str_tuple, visi_str_list, visi_tup_bool, visi_tup_int, visi_tup_str, visi_tup_tuple, visi_tup_list, visi_key_bool, visi_key_int, visi_key_str, visi_key_tuple, visi_key_list, visi_rol_bool, visi_rol_int, visi_rol_str, visi_rol_tuple, visi_rol_list, dBM, vtyL, vapp, vlen_upd, vix_upd, vsz_0, vsz_1, vsz_2, vsz_3, vsz_4, vsz_5, vsz_6, vsz_7, vsz_8, vsz_9, dIsN, dNotN, D.isN, List.getElem?_cons_zero, List.getElem?_cons_succ, List.set_cons_zero, List.set_cons_succ, List.length_cons, List.length_nil, decide_eq_true_eq, if_true, if_false, Bool.false_eq_true, ite_true, ite_false, true_and, and_true, Bool.not_true, Bool.not_false, dFld, sFldD, gF, dMeth, dMake, dTupP, dSl, oSome, oNo, updD_same, updD_updD, lk_stamp, lk_version, lk_over, lk_plan, lk_note, lk_ones, lk_guests, lk_says, lk_grow, lk_move, lk_move_one, lk_add, lk_drop, lk_hear, lk_rows, lk_told, lk_hands, lk_say_of, lk_parts, pf_stamp, pf_version, pf_over, pf_plan, pf_note, pf_ones, pf_ones0, pf_guests, pf_says, fs_len, lt8, vsl_plan, pf_plan2, vix_plan1, vix_plan3, veqE_rol, vneE_rol, gS])
section
variable {G : DH} {R : DK} {m : M} {j : Nat}
theorem ix_number (h : G m.a = some (.dK (m.kvs j))) : dIx (.ref m.a) (.str "number") G R = R (.int j) G := by unfold dIx itemOf; dsimp only; rw [h]; rfl
theorem ix_plan (h : G m.a = some (.dK (m.kvs j))) : dIx (.ref m.a) (.str "plan") G R = R m.plan.d G := by unfold dIx itemOf; dsimp only; rw [h]; rfl
theorem ix_guests (h : G m.a = some (.dK (m.kvs j))) : dIx (.ref m.a) (.str "guests") G R = R (.rol (m.guests.map .int)) G := by unfold dIx itemOf; dsimp only; rw [h]; rfl
theorem ix_version (h : G m.a = some (.dK (m.kvs j))) : dIx (.ref m.a) (.str "version") G R = R (.int m.version) G := by unfold dIx itemOf; dsimp only; rw [h]; rfl
theorem ix_note (h : G m.a = some (.dK (m.kvs j))) : dIx (.ref m.a) (.str "note") G R = R (.str m.note) G := by unfold dIx itemOf; dsimp only; rw [h]; rfl
theorem ix_changes (h : G m.a = some (.dK (m.kvs j))) : dIx (.ref m.a) (.str "changes") G R = R (.rol (m.chs.map chD)) G := by unfold dIx itemOf; dsimp only; rw [h]; rfl
theorem ix_is (h : G m.a = some (.dK (m.kvs j))) : dIx (.ref m.a) (.str "is") G R = R (.bl m.is) G := by unfold dIx itemOf; dsimp only; rw [h]; rfl
end
theorem flat_rep (n : Nat) (z : Str) : (List.replicate n [D.str z]).flatten = (List.replicate n z).map D.str := by
  induction n with
  | zero => rfl
  | succ n ih => rw [List.replicate_succ, List.replicate_succ, List.flatten_cons, ih, List.map_cons]; rfl
theorem vix_plan0 {p : Plan} {G : DH} {R : DK} : dIx p.d (.int 0) G R = R (.int p.b) G := rfl
theorem vix_plan2 {p : Plan} {G : DH} {R : DK} : dIx p.d (.int 2) G R = R (.int p.e) G := rfl
theorem fm_some (k : Int) : ∀ cs : List Ch, (cs.filterMap fun c : Ch => if c.1 = k then some (oD c.2) else none) = (some_ cs k).map oD
  | [] => rfl
  | c :: cs => by
    have ih := fm_some k cs
    unfold some_ at ih ⊢
    rw [List.filterMap_cons, List.filter_cons, ih]
    by_cases h : c.1 = k
    · simp [h]
    · simp [h]
def fndS : DSt := (sFor (iRange1 (dOp dIx (dOp dIx (dVar 0) (dC (.str "plan"))) (dC (.int 3)))) (gN 2) (sSeq (sAsg (dLcF (iSq (dOp dIx (dVar 0) (dC (.str "changes")))) (gT 2 (gsNames [4, 5])) (dTest (dOp dEq (dVar 4) (dVar 2))) (dVar 5) [4, 5]) (gN 3))
  (sDrop (dBM "list" mAppend (dVar 1) (dCons (dTup (dCons (dVar 2) (dCons (dIf (dTest (dOp dNeE (dVar 3) (dLstF dNil))) (dOp dIx (dVar 3) (dUn dNeg (dC (.int 1)))) (dOp dAddF (dOp dIx (dOp dIx (dVar 0) (dC (.str "plan"))) (dC (.int 0))) (dOp dMulF (dVar 2) (dOp dIx (dOp dIx (dVar 0) (dC (.str "plan"))) (dC (.int 2)))))) (dCons (dCB dLen (dCons (dVar 3) dNil)) dNil)))) dNil)))))
theorem fnd_ok {f : Addr} {m : M} {j : Nat} {G : DH} {Dn : DEnds} {o2 o3 o4 o5 o6 : Option D} (hG : G m.a = some (.dK (m.kvs j))) (hf : G f = none) (ok : m.plan.Ok) (hl : m.chs.length ≤ 1000)
    (q : ∀ o2 o3, Dn.nx [some (.ref m.a), some (.ref f), o2, o3, o4, o5, o6] (updD G f (.lst (((List.range m.plan.m.toNat).map (dueRow m.plan m.chs)).map Pl.Row.d)))) :
    fndS Dn [some (.ref m.a), some (.ref f), o2, o3, o4, o5, o6] (updD G f (.lst [])) := by
  have ne : m.a ≠ f := neD hG hf
  have hm : ∀ c, updD G f c m.a = some (.dK (m.kvs j)) := fun c => by rw [updD_ne ne]; exact hG
  unfold fndS sFor iRange1
  walk_at "wd"
  rw [ix_plan (hm _), vix_plan3]
  have e6 := ok.m0
  have e7 := ok.m1
  refine ⟨⟨by omega, by omega⟩, ?_⟩
  rw [rangeD_map]
  refine goFor_map (f := fun i : Nat => D.int (i : Int)) (fun xs δ G' => ∃ (pre : List Nat) (o2 o3 : Option D), δ = [some (.ref m.a), some (.ref f), o2, o3, o4, o5, o6] ∧ pre ++ xs = List.range m.plan.m.toNat ∧ G' = updD G f (.lst ((pre.map (dueRow m.plan m.chs)).map Pl.Row.d)))
    (fun _ _ _ _ => trivial) (fun δ G' ⟨pre, o2, o3, e, ep, eG⟩ => ?_) (fun x xs δ G' N ⟨pre, o2, o3, e, ep, eG⟩ hN => ?_) _ _ _ ⟨[], o2, o3, rfl, rfl, rfl⟩
  · subst e eG
    rw [List.append_nil] at ep
    subst ep
    exact q o2 o3
  · subst e eG
    walk_at "wd"
    simp only [dLcF, iSq]
    walk_at "wd"
    rw [ix_changes (hm _)]
    dsimp only
    refine goLcF_map (f := chD) (fun c : Ch => if c.1 = (x : Int) then some (oD c.2) else none) trivial (fun c C1 C2 hc => ?_) m.chs [] (by simp; exact sz_small (by omega)) ?_
    · unfold chD
      walk_at "wd"
      by_cases h : c.1 = x
      · simp only [h, if_true] at hc ⊢
        exact hc
      · simp only [h, if_false] at hc ⊢
        exact hc
    · rw [fm_some, List.nil_append]
      walk_at "wd"
      have hx : x < 12 := by
        have h1 : x ∈ List.range m.plan.m.toNat := by rw [← ep]; simp
        have := List.mem_range.mp h1
        omega
      have hlen : ((pre.map (dueRow m.plan m.chs)).map Pl.Row.d).length < sizeLine := by
        have := congrArg List.length ep
        rw [List.length_append, List.length_range, List.length_cons] at this
        rw [List.length_map, List.length_map, sizeLine_eq]
        omega
      have nxt : N [some (.ref m.a), some (.ref f), some (.int x), some (.rol ((some_ m.chs x).map oD)), o4, o5, o6] (updD G f (.lst ((pre.map (dueRow m.plan m.chs)).map Pl.Row.d ++ [(dueRow m.plan m.chs x).d]))) :=
        hN _ _ ⟨pre ++ [x], _, _, rfl, by rw [List.append_assoc]; exact ep, by rw [List.map_append, List.map_append]; rfl⟩
      unfold Pl.Row.d dueRow at nxt
      dsimp only at nxt
      cases hs : some_ m.chs x with
      | nil =>
        rw [hs] at nxt
        simp only [List.map_nil, List.isEmpty_nil]
        walk_at "wd"
        rw [ix_plan (hm _), vix_plan0]
        walk_at "wd"
        rw [ix_plan (hm _), vix_plan2]
        walk_at "wd"
        exact ⟨by unfold CMul; omega, hlen, nxt⟩
      | cons b bs =>
        rw [hs] at nxt
        simp only [List.map_cons, List.isEmpty_cons]
        walk_at "wd"
        rw [vat_last (by simp)]
        rw [List.getLast?_eq_some_getLast (l := b :: bs) (by simp)] at nxt
        dsimp only
        have eL : (oD b :: bs.map oD).getLast (by simp) = oD ((b :: bs).getLast (by simp)) := List.getLast_map (f := oD) (l := b :: bs) (by simp)
        rw [eL]
        have e9 : (bs.map oD).length = bs.length := List.length_map _
        rw [e9]
        exact ⟨hlen, nxt⟩
theorem pure__law_told (ds : List D) (G : DH) (R : DK) (EX : DX) (h : sd__law_told ds G R EX) : b__law_told (endsD (frg R) EX) (startD N__law_told ds) G := by
  obtain ⟨m, j, rfl, hG, ok, hl, hg, q⟩ := h
  show b__law_told (endsD (frg R) EX) [some (.ref m.a), none, none, none, none, none, none] G
  have e6 := ok.m0
  have e7 := ok.m1
  unfold b__law_told
  walk_at "wd"
  intro f hf
  have ne : m.a ≠ f := neD hG hf
  have hm : ∀ c, updD G f c m.a = some (.dK (m.kvs j)) := fun c => by rw [updD_ne ne]; exact hG
  refine fnd_ok hG hf ok hl fun o2 o3 => ?_
  walk_at "wd"
  simp only [dLcF, iSq]
  walk_at "wd"
  rw [ix_guests (hm _)]
  dsimp only
  refine goLcF_map (f := fun g : Int => D.int g) (fun g : Int => some (ToldG.d ⟨g, none, List.replicate m.plan.m.toNat "asked"⟩)) trivial (fun g C1 C2 hc => ?_) m.guests [] (by simp; exact sz_small (by omega)) ?_
  · walk_at "wd"
    rw [ix_plan (hm _), vix_plan3]
    walk_at "wd"
    refine ⟨by omega, by omega, by rw [sizeLine_eq, List.length_singleton]; omega, ?_⟩
    rw [flat_rep]
    exact hc
  · have e : (m.guests.filterMap fun g : Int => some (ToldG.d ⟨g, none, List.replicate m.plan.m.toNat "asked"⟩)) = (m.guests.map fun g => (⟨g, none, List.replicate m.plan.m.toNat "asked"⟩ : ToldG)).map ToldG.d := by
      rw [List.filterMap_eq_map', List.map_map]
      rfl
    rw [e, List.nil_append]
    walk_at "wd"
    refine sFz_lst (p := f) rfl updD_same ?_
    rw [delD_updD hf]
    walk_at "wd"
    simp only [ix_number hG, ix_version hG, ix_note hG, ix_plan hG, vix_plan1]
    exact frg_of q
end K03
/-! ### k03: changes -/
namespace K03
open PySem PySem.Spec PyProof.Rows L2 Cc Pl Hd Lw
open PySem.W (EachIs AllAlike Sortable dataLe)
open K02 (Ch chD after some_ dueRow due_rows)
local macro_rules | `(tactic| walk_at "rd") => `(tactic| try simp only [sSeq, sIf, sAsg, sRet, sRetN, sDrop, sNext, gN, gT, gsCons, gsNil, gsNames, wipeD, D.tl, dTest, dAnd, dOr, dNot, dAndV, dOrV, dNotV, dIf, dOp, dUn, dVar, dC, dCons, dNil, dCB, dCall, dTup, dLst, dLstF, dYes, blD_bl, dEq_int, dNe_int, dEq_bl, dNe_bl, dEq_str, dChain, vadd_int, vadd_rol, vadd_tup, vmul_int, vsub_int, vlt_int, vle_int, vgt_int, vge_int, vmax_int, vmin_int, vneg_int, vlen_tup, vlen_rol, vtup_rol, vtup_tup, vlist_rol, vlist_tup, vix_tup, vix_rol, vat_0, vat_1, vat_2, vat_3, vat_4, vat_5, vat_6, vsl_tup, vsl_rol, visi_non_bool, visi_non_int, visi_non_str, visi_non_tuple, visi_non_list, visi_bl_bool, visi_bl_int, visi_bl_str, visi_bl_tuple, visi_bl_list, visi_int_bool, visi_int_int, visi_int_str, visi_int_tuple, visi_int_list, visi_str_bool, visi_str_int, visi_str_str, visi_str_tuple, visi_str_list, visi_tup_bool, visi_tup_int, visi_tup_str, visi_tup_tuple, visi_tup_list, visi_key_bool, visi_key_int, visi_key_str, visi_key_tuple, visi_key_list, visi_rol_bool, visi_rol_int, visi_rol_str, visi_rol_tuple, visi_rol_list, dBM, vtyL, vapp, vlen_upd, vix_upd, vsz_0, vsz_1, vsz_2, vsz_3, vsz_4, vsz_5, vsz_6, vsz_7, vsz_8, vsz_9, dIsN, dNotN, D.isN, List.getElem?_cons_zero, List.getElem?_cons_succ, List.set_cons_zero, List.set_cons_succ, List.length_cons, List.length_nil, decide_eq_true_eq, if_true, if_false, Bool.false_eq_true, ite_true, ite_false, true_and, and_true, Bool.not_true, Bool.not_false])
local macro_rules | `(tactic| walk_at "hd") => `(tactic| try simp only [sSeq, sIf, sAsg, sRet, sRetN, sDrop, sNext, gN, gT, gsCons, gsNil, gsNames, wipeD, D.tl, dTest, dAnd, dOr, dNot, dAndV, dOrV, dNotV, dIf, dOp, dUn, dVar, dC, dCons, dNil, dCB, dCall, dTup, dLst, dLstF, dYes, blD_bl, dEq_int, dNe_int, dEq_bl, dNe_bl, dEq_str, dChain, vadd_int, vadd_rol, vadd_tup, vmul_int, vsub_int, vlt_int, vle_int, vgt_int, vge_int, vmax_int, vmin_int, vneg_int, vlen_tup, vlen_rol, vtup_rol, vtup_tup, vlist_rol, vlist_tup, vix_tup, vix_rol, vat_0, vat_1, vat_2, vat_3, vat_4, vat_5, vat_6, vsl_tup, vsl_rol, visi_non_bool, visi_non_int, visi_non_str, visi_non_tuple, visi_non_list, visi_bl_bool, visi_bl_int, visi_bl_str, visi_bl_tuple, visi_bl_list, visi_int_bool, visi_int_int, visi_int_str, visi_int_tuple, visi_int_list, visi_str_bool, visi_str_int, visi_str_str, visi_str_tuple, visi_str_list, visi_tup_bool, visi_tup_int, visi_tup_str, visi_tup_tuple, visi_tup_list, visi_key_bool, visi_key_int, visi_key_str, visi_key_tuple, visi_key_list, visi_rol_bool, visi_rol_int, visi_rol_str, visi_rol_tuple, visi_rol_list, dBM, vtyL, vapp, vlen_upd, vix_upd, vsz_0, vsz_1, vsz_2, vsz_3, vsz_4, vsz_5, vsz_6, vsz_7, vsz_8, vsz_9, dIsN, dNotN, D.isN, List.getElem?_cons_zero, List.getElem?_cons_succ, List.set_cons_zero, List.set_cons_succ, List.length_cons, List.length_nil, decide_eq_true_eq, if_true, if_false, Bool.false_eq_true, ite_true, ite_false, true_and, and_true, Bool.not_true, Bool.not_false, dFld, sFldD, gF, dMeth, dMake, dTupP, dSl, oSome, oNo, updD_same, updD_updD, lk_stamp, lk_version, lk_over, lk_plan, lk_note, lk_ones, lk_guests, lk_says, lk_grow, lk_move, lk_move_one, lk_add, lk_drop, lk_hear, lk_rows, lk_told, lk_hands, lk_say_of, lk_parts, pf_stamp, pf_version, pf_over, pf_plan, pf_note, pf_ones, pf_ones0, pf_guests, pf_says, fs_len, lt8, vsl_plan, pf_plan2, vix_plan1, vix_plan3])
local macro_rules | `(tactic| walk_at "wd") => `(tactic| try simp only [sSeq, sIf, sAsg, sRet, sRetN, sDrop, sNext, gN, gT, gsCons, gsNil, gsNames, wipeD, D.tl, dTest, dAnd, dOr, dNot, dAndV, dOrV, dNotV, dIf, dOp, dUn, dVar, dC, dCons, dNil, dCB, dCall, dTup, dLst, dLstF, dYes, blD_bl, dEq_int, dNe_int, dEq_bl, dNe_bl, dEq_str, dChain, vadd_int, vadd_rol, vadd_tup, vmul_int, vsub_int, vlt_int, vle_int, vgt_int, vge_int, vmax_int, vmin_int, vneg_int, vlen_tup, vlen_rol, vtup_rol, vtup_tup, vlist_rol, vlist_tup, vix_tup, vix_rol, vat_0, vat_1, vat_2, vat_3, vat_4, vat_5, vat_6, vsl_tup, vsl_rol, visi_non_bool, visi_non_int, visi_non_str, visi_non_tuple, visi_non_list, visi_bl_bool, visi_bl_int, visi_bl_str, visi_bl_tuple, visi_bl_list, visi_int_bool, visi_int_int, visi_int_str, visi_int_tuple, visi_int_list, visi_str_bool, visi_str_int, visi_str_str, visi_str_tuple, visi_str_list, visi_tup_bool, visi_tup_int, visi_tup_str, visi_tup_tuple, visi_tup_list, visi_key_bool, visi_key_int, visi_key_str, visi_key_tuple, visi_key_list, visi_rol_bool, visi_rol_int, visi_rol_str, visi_rol_tuple, visi_rol_list, dBM, vtyL, vapp, vlen_upd, vix_upd, vsz_0, vsz_1, vsz_2, vsz_3, vsz_4, vsz_5, vsz_6, vsz_7, vsz_8, vsz_9, dIsN, dNotN, D.isN, List.getElem?_cons_zero, List.getElem?_cons_succ, List.set_cons_zero, List.set_cons_succ, List.length_cons, List.length_nil, decide_eq_true_eq, if_true, if_false, Bool.false_eq_true, ite_true, ite_false, true_and, and_true, Bool.not_true, Bool.not_false, dFld, sFldD, gF, dMeth, dMake, dTupP, dSl, oSome, oNo, updD_same, updD_updD, lk_stamp, lk_version, lk_over, lk_plan, lk_note, lk_ones, lk_guests, lk_says, lk_grow, lk_move, lk_move_one, lk_add, lk_drop, lk_hear, lk_rows, lk_told, lk_hands, lk_say_of, lk_parts, pf_stamp, pf_version, pf_over, pf_plan, pf_note, pf_ones, pf_ones0, pf_guests, pf_says, fs_len, lt8, vsl_plan, pf_plan2, vix_plan1, vix_plan3, veqE_rol, vneE_rol, gS])
theorem map_set {α β : Type} (f : α → β) {l : List α} {j i : Nat} {y y' : α} (h : l[j]? = some y) (e : f y' = f y) : (l.set j y')[i]?.map f = l[i]?.map f := by
  rw [List.getElem?_set]
  split
  · rename_i hij
    subst hij
    rw [h]
    split <;> simp_all
  · rfl
theorem map_set' {α β : Type} (f : α → β) {l : List α} {j : Nat} {y y' : α} (h : l[j]? = some y) (e : f y' = f y) : (l.set j y').map f = l.map f := by
  apply List.ext_getElem?
  intro i
  rw [List.getElem?_map, List.getElem?_map]
  exact map_set f h e
theorem set_at {α : Type} {l : List α} {j : Nat} {y y' : α} (h : l[j]? = some y) : (l.set j y')[j]? = some y' := by
  rw [List.getElem?_set_self]
  rcases Nat.lt_or_ge j l.length with h' | h'
  · exact h'
  · rw [List.getElem?_eq_none h'] at h; cases h
theorem set_off {α : Type} {l : List α} {j i : Nat} {y' : α} (h : j ≠ i) : (l.set j y')[i]? = l[i]? := List.getElem?_set_ne h
def Wd.setY (w : Wd) (j : Nat) (y : LH) : Wd := { w with ys := w.ys.set j y }
def Wd.setM (w : Wd) (j : Nat) (m : M) : Wd := { w with ms := w.ms.set j m }
section
variable {ca : CA} {G : DH} {w : Wd} {j : Nat} {y : LH} {m : M} {n : Nat} {l : List D}
theorem ne_of (h : At ca G w) (e : w.ys[j]? = some y) : y.hd ≠ y.kn := by
  obtain ⟨l, _, h⟩ := h
  exact h.ap (t := .heard j) (t' := .known j) (by simp only [cells, e]; rfl) (by simp only [cells, e]; rfl) (by simp)
theorem host_of (h : At ca G w) (e : w.ys[j]? = some y) : HostAt ca G y := by
  have ne := ne_of h e
  obtain ⟨l, _, h⟩ := h
  exact ⟨h.get (t := .hosted j) (by simp only [cells, e]; rfl), h.get (t := .recd j) (by simp only [cells, e]; rfl), h.get (t := .heard j) (by simp only [cells, e]; rfl), h.get (t := .known j) (by simp only [cells, e]; rfl), ne⟩
theorem base_of (h : At ca G w) : Base ca G w.hand := by
  obtain ⟨l, _, h⟩ := h
  exact ⟨h.get (t := .hand) rfl, h.get (t := .own) rfl, h.get (t := .calls) rfl⟩
theorem own_of (h : At ca G w) (e : w.ys[j]? = some y) : OwnAt ca G w.hand j y := { base_of h with i := e, y := host_of h e }
theorem mm_of (h : At ca G w) (e : w.ms[j]? = some m) : G m.a = some (.dK (m.kvs j)) := by
  obtain ⟨l, _, h⟩ := h
  exact h.get (t := .m j) (by simp only [cells, e]; rfl)
theorem low_of (h : At ca G w) : G w.lo = some (.lst (w.ms.map fun m => .ref m.a)) := by
  obtain ⟨l, _, h⟩ := h
  exact h.get (t := .low) rfl
theorem at_sub {G' : DH} (h : At ca G w) (s : Sub G G') : At ca G' w := by
  obtain ⟨l, d, h⟩ := h
  exact ⟨l, d, h.sub s⟩
theorem draws_of (h : AtF G (cells ca w l)) (l' : List D) : AtF (updD G w.d (.lst l')) (cells ca w l') := h.upd (t := .draws) (c := .lst l) rfl rfl fun s hs => by
  cases s <;> first | rfl | exact absurd rfl hs
theorem recd_of (h : At ca G w) (e : w.ys[j]? = some y) (r : Rec) : At ca (putR ca G y.r r) (w.setY j { y with rc := r }) := by
  obtain ⟨l, d, h⟩ := h
  refine ⟨l, d, h.upd (t := .recd j) (c := .ins ca.Record y.rc.fs) (by simp only [cells, e]; rfl) ?_ fun s hs => ?_⟩
  · simp only [cells, Wd.setY, set_at e]; rfl
  · cases s with
    | own => simp only [cells, Wd.setY]; exact congrArg (fun l => some (w.o, C.lst l)) (map_set' (y' := { y with rc := r }) (fun y => D.ref y.h) e rfl)
    | hosted i => exact map_set _ e rfl
    | heard i => exact map_set _ e rfl
    | known i => exact map_set _ e rfl
    | recd i =>
      have : j ≠ i := fun z => hs (by rw [z])
      simp only [cells, Wd.setY, set_off this]
    | _ => rfl
theorem known_of (h : At ca G w) (e : w.ys[j]? = some y) (kn : List (Int × Int)) : At ca (updD G y.kn (.dK (kvI .int kn))) (w.setY j { y with known := kn }) := by
  obtain ⟨l, d, h⟩ := h
  refine ⟨l, d, h.upd (t := .known j) (c := .dK (kvI .int y.known)) (by simp only [cells, e]; rfl) ?_ fun s hs => ?_⟩
  · simp only [cells, Wd.setY, set_at e]; rfl
  · cases s with
    | own => simp only [cells, Wd.setY]; exact congrArg (fun l => some (w.o, C.lst l)) (map_set' (y' := { y with known := kn }) (fun y => D.ref y.h) e rfl)
    | hosted i => exact map_set _ e rfl
    | heard i => exact map_set _ e rfl
    | recd i => exact map_set _ e rfl
    | known i =>
      have : j ≠ i := fun z => hs (by rw [z])
      simp only [cells, Wd.setY, set_off this]
    | _ => rfl
theorem setm_of (h : At ca G w) (e : w.ms[j]? = some m) (m' : M) (ea : m'.a = m.a) : At ca (updD G m.a (.dK (m'.kvs j))) (w.setM j m') := by
  obtain ⟨l, d, h⟩ := h
  refine ⟨l, d, h.upd (t := .m j) (c := .dK (m.kvs j)) (by simp only [cells, e]; rfl) ?_ fun s hs => ?_⟩
  · simp only [cells, Wd.setM, set_at e, ← ea]; rfl
  · cases s with
    | low => simp only [cells, Wd.setM]; rw [map_set' (fun m => D.ref m.a) e (by rw [ea])]
    | m i =>
      have : j ≠ i := fun z => hs (by rw [z])
      simp only [cells, Wd.setM, set_off this]
    | _ => rfl
theorem Gd.set (g : Gd w n) {k : Nat} {y' : LH} {m' : M} (hy : w.ys[j]? = some y) (hm : w.ms[j]? = some m) (r : Rel y' m') (hk : m'.chs.length ≤ k) (hn : n ≤ k) : Gd ((w.setY j y').setM j m') k := by
  refine ⟨?_, ?_, fun i y2 m2 h1 h2 => ?_, fun m2 h2 => ?_⟩
  · simp only [Wd.setY, Wd.setM, List.length_set]; exact g.len
  · simp only [Wd.setY, Wd.setM, List.length_set]; exact g.few
  · simp only [Wd.setY, Wd.setM] at h1 h2
    by_cases hij : j = i
    · subst hij
      rw [set_at hy] at h1
      rw [set_at hm] at h2
      cases h1; cases h2; exact r
    · rw [set_off hij] at h1 h2
      exact g.rel i y2 m2 h1 h2
  · simp only [Wd.setY, Wd.setM] at h2
    rcases List.mem_or_eq_of_mem_set h2 with h2 | rfl
    · exact Nat.le_trans (g.chs m2 h2) hn
    · exact hk
theorem Gd.mono (g : Gd w n) {k : Nat} (h : n ≤ k) : Gd w k := ⟨g.len, g.few, g.rel, fun m hm => Nat.le_trans (g.chs m hm) h⟩
theorem y_of (g : Gd w n) (hm : w.ms[j]? = some m) : ∃ y, w.ys[j]? = some y := by
  have : j < w.ys.length := by
    rw [g.len]
    rcases Nat.lt_or_ge j w.ms.length with h' | h'
    · exact h'
    · rw [List.getElem?_eq_none h'] at hm; cases hm
  exact ⟨_, List.getElem?_eq_getElem this⟩
theorem off_W {R : DK} {EX : DX} {b : Int} (hA : At ca G w) (m0 : 0 < b) (m1 : b < 1073741824) (q : ∀ r G', 0 ≤ r → r < b → At ca G' w → R (.int r) G') : sd__law_off [.ref w.d, .int b] G R EX := by
  obtain ⟨l, d, h⟩ := hA
  exact off_at (h.get (t := .draws) rfl) d m0 m1 fun r l' r0 r1 dl => q r _ r0 r1 ⟨l', dl, draws_of h l'⟩
theorem setM_K {P : DH → Prop} {k : Str} {v : D} {a : Addr} (hA : At ca G w) (hm : w.ms[j]? = some m) (m' : M) (ea : m'.a = m.a) (e : putD (m.kvs j) (Sum.inr k) v = m'.kvs j) (q : ∀ G', At ca G' (w.setM j m') → P G') (e2 : a = m.a := by rfl) : dSetD (.ref a) (.str k) v G P := by
  subst e2
  refine set_dk (mm_of hA hm) (by rw [sizeLine_eq]; show 7 < _; decide) ?_
  rw [e]
  exact q _ (setm_of hA hm m' ea)
theorem setM_setM {m1 m2 : M} : (w.setM j m1).setM j m2 = w.setM j m2 := by
  unfold Wd.setM
  rw [List.set_set]
theorem setY_setY {y1 y2 : LH} : (w.setY j y1).setY j y2 = w.setY j y2 := by
  unfold Wd.setY
  rw [List.set_set]
theorem setM_at (m' : M) (h : w.ms[j]? = some m) : (w.setM j m').ms[j]? = some m' := set_at h
theorem setY_at (y' : LH) (h : w.ys[j]? = some y) : (w.setY j y').ys[j]? = some y' := set_at h
theorem put_plan (p : Plan) : putD (m.kvs j) (Sum.inr "plan") p.d = M.kvs { m with plan := p } j := rfl
theorem put_guests (gs : List Int) : putD (m.kvs j) (Sum.inr "guests") (.rol (gs.map .int)) = M.kvs { m with guests := gs } j := rfl
theorem put_version (v : Int) : putD (m.kvs j) (Sum.inr "version") (.int v) = M.kvs { m with version := v } j := rfl
theorem put_note (z : Str) : putD (m.kvs j) (Sum.inr "note") (.str z) = M.kvs { m with note := z } j := rfl
theorem put_changes (cs : List Ch) : putD (m.kvs j) (Sum.inr "changes") (.rol (cs.map chD)) = M.kvs { m with chs := cs } j := rfl
theorem put_is (b : Bool) : putD (m.kvs j) (Sum.inr "is") (.bl b) = M.kvs { m with is := b } j := rfl
theorem kvs_len : (m.kvs j).length < sizeLine := by rw [sizeLine_eq]; show 7 < _; decide
end
section
variable {x : LHand}
theorem la_move : List.lookup ("move" : Str) x.fs = none := rfl
theorem la_move_one : List.lookup ("move_one" : Str) x.fs = none := rfl
theorem la_rename : List.lookup ("rename" : Str) x.fs = none := rfl
theorem la_call_off : List.lookup ("call_off" : Str) x.fs = none := rfl
theorem la_invite : List.lookup ("invite" : Str) x.fs = none := rfl
theorem la_uninvite : List.lookup ("uninvite" : Str) x.fs = none := rfl
theorem la_call : List.lookup ("call" : Str) x.fs = none := rfl
theorem la_book : List.lookup ("book" : Str) x.fs = none := rfl
end
theorem after_snoc (cs : List Ch) (c : Ch) : after (cs ++ [c]) = Pl.changed (after cs) c.1 c.2 := by
  unfold after
  rw [List.foldl_append]
  rfl
section
variable {y : LH} {m : M}
theorem Rel.move (h : Rel y m) {b : Int} (b0 : 0 ≤ b) (b1 : b ≤ 999) : Rel { y with rc := y.rc.move b } { m with plan := { m.plan with b := b }, version := m.version + 1, chs := [] } :=
  ⟨h.inv.move b0 b1, (by show y.rc.version + 1 = _; rw [h.version]), h.over, (by show ({ y.rc.plan with b := b } : Plan) = _; rw [h.plan]), h.note, rfl, h.guests, h.says, h.heard, h.knd, h.k8, h.g5⟩
theorem Rel.moveOne (h : Rel y m) {k : Int} {b : Option Int} (k0 : 0 ≤ k) (k1 : k < m.plan.m) : Rel { y with rc := y.rc.moveOne k b } { m with chs := m.chs ++ [(k, b)] } :=
  ⟨h.inv.moveOne k0 (by rw [h.plan]; exact k1), h.version, h.over, h.plan, h.note, (by show Pl.changed y.rc.ones k b = _; rw [h.ones, after_snoc]), h.guests, h.says, h.heard, h.knd, h.k8, h.g5⟩
theorem Rel.name (h : Rel y m) (z : Str) : Rel { y with rc := Rec.grow { y.rc with note := z } } { m with note := z } :=
  ⟨(h.inv.name z).grow, h.version, h.over, h.plan, rfl, h.ones, h.guests, h.says, h.heard, h.knd, h.k8, h.g5⟩
theorem Rel.off (h : Rel y m) : Rel { y with rc := Rec.grow { y.rc with over := true } } { m with is := false } :=
  ⟨(h.inv.off true).grow, h.version, rfl, h.plan, h.note, h.ones, h.guests, h.says, h.heard, h.knd, h.k8, h.g5⟩
theorem Rel.hands (h : Rel y m) : y.rc.hands = m.guests := by
  show y.rc.guests.map _ = _
  rw [h.guests, List.map_map]
  simp [Function.comp_def]
theorem Rel.drop (h : Rel y m) (hand : Int) : Rel { y with rc := y.rc.drop hand } { m with guests := m.guests.filter fun g => !decide (g = hand) } :=
  ⟨h.inv.drop hand, h.version, h.over, h.plan, h.note, h.ones, (by
    show y.rc.guests.filter _ = _
    rw [h.guests, List.filter_map]
    rfl), (fun s hs => h.says s (List.mem_filter.mp hs).1), h.heard, h.knd, h.k8, fun g hg => h.g5 g (List.mem_filter.mp hg).1⟩
theorem knows_keys {known : List (Int × Int)} {hand : Int} (n : (known.map (·.1)).Nodup) : ((knows known hand).map (·.1)).Nodup ∧ ∀ k, k ∈ (knows known hand).map (·.1) ↔ k ∈ known.map (·.1) ∨ k = hand := by
  unfold knows
  split
  · rename_i e
    refine ⟨n, fun k => ⟨.inl, fun hk => ?_⟩⟩
    rcases hk with hk | rfl
    · exact hk
    · obtain ⟨p, hp, e⟩ := List.any_eq_true.mp e
      exact List.mem_map.mpr ⟨p, hp, of_decide_eq_true e⟩
  · rename_i e
    have hn : hand ∉ known.map (·.1) := fun hm => by
      obtain ⟨p, hp, ep⟩ := List.mem_map.mp hm
      exact e (List.any_eq_true.mpr ⟨p, hp, decide_eq_true ep⟩)
    refine ⟨?_, fun k => ?_⟩
    · rw [List.map_append]
      refine List.nodup_append.mpr ⟨n, by simp, fun a ha b hb z => ?_⟩
      rw [List.map_cons, List.map_nil, List.mem_singleton] at hb
      subst hb z
      exact hn ha
    · rw [List.map_append, List.mem_append]
      exact or_congr Iff.rfl List.mem_singleton
theorem byH_map {l : List Int} : byH (l.map fun g => (g, (none : Option Int))) = (sortI l).map fun g => (g, none) := by
  unfold byH sortI
  rw [List.map_mergeSort]
  intro a _ b _
  rfl
theorem Rel.invite (h : Rel y m) {hand : Int} (h0 : 0 ≤ hand ∧ hand < 8) (h5 : hand ≠ 5) (hh : hand ∉ m.guests) : Rel (invited y hand) { m with guests := sortI (m.guests ++ [hand]) } := by
  have hh' : hand ∉ y.rc.hands := by rw [h.hands]; exact hh
  obtain ⟨k1, k2⟩ := knows_keys (hand := hand) h.knd
  refine ⟨h.inv.add hh' h0 nothing_ok, h.version, h.over, h.plan, h.note, h.ones, ?_, fun s hs => ?_, h.heard, k1, fun k hk => ?_, fun g hg => ?_⟩
  · show byH (y.rc.guests ++ [(hand, none)]) = _
    rw [h.guests, ← byH_map, List.map_append]
    rfl
  · have hs := byH_mem.mp hs
    rcases List.mem_append.mp hs with hs | hs
    · exact h.says s (List.mem_filter.mp hs).1
    · rw [List.mem_singleton.mp hs]
  · rcases (k2 k).mp hk with hk | rfl
    · exact h.k8 k hk
    · exact h0
  · have hg := (sortI_perm _).mem_iff.mp hg
    rcases List.mem_append.mp hg with hg | hg
    · exact h.g5 g hg
    · rw [List.mem_singleton.mp hg]; exact h5
end
end K03
/-! ### k03: a change -/
namespace K03
open PySem PySem.Spec PyProof.Rows L2 Cc Pl Hd Lw
open PySem.W (EachIs AllAlike Sortable dataLe)
open K02 (Ch chD after some_ dueRow due_rows)
local macro_rules | `(tactic| walk_at "rd") => `(tactic| try simp only [sSeq, sIf, sAsg, sRet, sRetN, sDrop, sNext, gN, gT, gsCons, gsNil, gsNames, wipeD, D.tl, dTest, dAnd, dOr, dNot, dAndV, dOrV, dNotV, dIf, dOp, dUn, dVar, dC, dCons, dNil, dCB, dCall, dTup, dLst, dLstF, dYes, blD_bl, dEq_int, dNe_int, dEq_bl, dNe_bl, dEq_str, dChain, vadd_int, vadd_rol, vadd_tup, vmul_int, vsub_int, vlt_int, vle_int, vgt_int, vge_int, vmax_int, vmin_int, vneg_int, vlen_tup, vlen_rol, vtup_rol, vtup_tup, vlist_rol, vlist_tup, vix_tup, vix_rol, vat_0, vat_1, vat_2, vat_3, vat_4, vat_5, vat_6, vsl_tup, vsl_rol, visi_non_bool, visi_non_int, visi_non_str, visi_non_tuple, visi_non_list, visi_bl_bool, visi_bl_int, visi_bl_str, visi_bl_tuple, visi_bl_list, visi_int_bool, visi_int_int, visi_int_str, visi_int_tuple, visi_int_list, visi_str_bool, visi_str_int, visi_str_str, visi_str_tuple, visi_str_list, visi_tup_bool, visi_tup_int, visi_tup_str, visi_tup_tuple, visi_tup_list, visi_key_bool, visi_key_int, visi_key_str, visi_key_tuple, visi_key_list, visi_rol_bool, visi_rol_int, visi_rol_str, visi_rol_tuple, visi_rol_list, dBM, vtyL, vapp, vlen_upd, vix_upd, vsz_0, vsz_1, vsz_2, vsz_3, vsz_4, vsz_5, vsz_6, vsz_7, vsz_8, vsz_9, dIsN, dNotN, D.isN, List.getElem?_cons_zero, List.getElem?_cons_succ, List.set_cons_zero, List.set_cons_succ, List.length_cons, List.length_nil, decide_eq_true_eq, if_true, if_false, Bool.false_eq_true, ite_true, ite_false, true_and, and_true, Bool.not_true, Bool.not_false])
local macro_rules | `(tactic| walk_at "hd") => `(tactic| try simp only [sSeq, sIf, sAsg, sRet, sRetN, sDrop, sNext, gN, gT, gsCons, gsNil, gsNames, wipeD, D.tl, dTest, dAnd, dOr, dNot, dAndV, dOrV, dNotV, dIf, dOp, dUn, dVar, dC, dCons, dNil, dCB, dCall, dTup, dLst, dLstF, dYes, blD_bl, dEq_int, dNe_int, dEq_bl, dNe_bl, dEq_str, dChain, vadd_int, vadd_rol, vadd_tup, vmul_int, vsub_int, vlt_int, vle_int, vgt_int, vge_int, vmax_int, vmin_int, vneg_int, vlen_tup, vlen_rol, vtup_rol, vtup_tup, vlist_rol, vlist_tup, vix_tup, vix_rol, vat_0, vat_1, vat_2, vat_3, vat_4, vat_5, vat_6, vsl_tup, vsl_rol, visi_non_bool, visi_non_int, visi_non_str, visi_non_tuple, visi_non_list, visi_bl_bool, visi_bl_int, visi_bl_str, visi_bl_tuple, visi_bl_list, visi_int_bool, visi_int_int, visi_int_str, visi_int_tuple, visi_int_list, visi_str_bool, visi_str_int, visi_str_str, visi_str_tuple, visi_str_list, visi_tup_bool, visi_tup_int, visi_tup_str, visi_tup_tuple, visi_tup_list, visi_key_bool, visi_key_int, visi_key_str, visi_key_tuple, visi_key_list, visi_rol_bool, visi_rol_int, visi_rol_str, visi_rol_tuple, visi_rol_list, dBM, vtyL, vapp, vlen_upd, vix_upd, vsz_0, vsz_1, vsz_2, vsz_3, vsz_4, vsz_5, vsz_6, vsz_7, vsz_8, vsz_9, dIsN, dNotN, D.isN, List.getElem?_cons_zero, List.getElem?_cons_succ, List.set_cons_zero, List.set_cons_succ, List.length_cons, List.length_nil, decide_eq_true_eq, if_true, if_false, Bool.false_eq_true, ite_true, ite_false, true_and, and_true, Bool.not_true, Bool.not_false, dFld, sFldD, gF, dMeth, dMake, dTupP, dSl, oSome, oNo, updD_same, updD_updD, lk_stamp, lk_version, lk_over, lk_plan, lk_note, lk_ones, lk_guests, lk_says, lk_grow, lk_move, lk_move_one, lk_add, lk_drop, lk_hear, lk_rows, lk_told, lk_hands, lk_say_of, lk_parts, pf_stamp, pf_version, pf_over, pf_plan, pf_note, pf_ones, pf_ones0, pf_guests, pf_says, fs_len, lt8, vsl_plan, pf_plan2, vix_plan1, vix_plan3])
local macro_rules | `(tactic| walk_at "wd") => `(tactic| try simp only [sSeq, sIf, sAsg, sRet, sRetN, sDrop, sNext, gN, gT, gsCons, gsNil, gsNames, wipeD, D.tl, dTest, dAnd, dOr, dNot, dAndV, dOrV, dNotV, dIf, dOp, dUn, dVar, dC, dCons, dNil, dCB, dCall, dTup, dLst, dLstF, dYes, blD_bl, dEq_int, dNe_int, dEq_bl, dNe_bl, dEq_str, dChain, vadd_int, vadd_rol, vadd_tup, vmul_int, vsub_int, vlt_int, vle_int, vgt_int, vge_int, vmax_int, vmin_int, vneg_int, vlen_tup, vlen_rol, vtup_rol, vtup_tup, vlist_rol, vlist_tup, vix_tup, vix_rol, vat_0, vat_1, vat_2, vat_3, vat_4, vat_5, vat_6, vsl_tup, vsl_rol, visi_non_bool, visi_non_int, visi_non_str, visi_non_tuple, visi_non_list, visi_bl_bool, visi_bl_int, visi_bl_str, visi_bl_tuple, visi_bl_list, visi_int_bool, visi_int_int, visi_int_str, visi_int_tuple, visi_int_list, visi_str_bool, visi_str_int, visi_str_str, visi_str_tuple, visi_str_list, visi_tup_bool, visi_tup_int, visi_tup_str, visi_tup_tuple, visi_tup_list, visi_key_bool, visi_key_int, visi_key_str, visi_key_tuple, visi_key_list, visi_rol_bool, visi_rol_int, visi_rol_str, visi_rol_tuple, visi_rol_list, dBM, vtyL, vapp, vlen_upd, vix_upd, vsz_0, vsz_1, vsz_2, vsz_3, vsz_4, vsz_5, vsz_6, vsz_7, vsz_8, vsz_9, dIsN, dNotN, D.isN, List.getElem?_cons_zero, List.getElem?_cons_succ, List.set_cons_zero, List.set_cons_succ, List.length_cons, List.length_nil, decide_eq_true_eq, if_true, if_false, Bool.false_eq_true, ite_true, ite_false, true_and, and_true, Bool.not_true, Bool.not_false, dFld, sFldD, gF, dMeth, dMake, dTupP, dSl, oSome, oNo, updD_same, updD_updD, lk_stamp, lk_version, lk_over, lk_plan, lk_note, lk_ones, lk_guests, lk_says, lk_grow, lk_move, lk_move_one, lk_add, lk_drop, lk_hear, lk_rows, lk_told, lk_hands, lk_say_of, lk_parts, pf_stamp, pf_version, pf_over, pf_plan, pf_note, pf_ones, pf_ones0, pf_guests, pf_says, fs_len, lt8, vsl_plan, pf_plan2, vix_plan1, vix_plan3, veqE_rol, vneE_rol, gS])
theorem setY_m {w : Wd} {j : Nat} {y : LH} : (w.setY j y).ms = w.ms := rfl
theorem filt_ne {l : List Int} {x : Int} : (l.filterMap fun g : Int => if g = x then none else some (D.int g)) = (l.filter fun g => !decide (g = x)).map D.int := by
  induction l with
  | nil => rfl
  | cons g l ih =>
    rw [List.filterMap_cons, List.filter_cons, ih]
    by_cases h : g = x
    · simp [h]
    · simp [h]
theorem sort_intsR {l : List Int} {G : DH} {R : DK} (hl : l.length ≤ 100000) (q : R (.rol ((sortI l).map .int)) G) : dSortedF [.rol (l.map .int)] G R := by
  refine ⟨l.map .int, l.map PyData.int, rfl, rdd_map fun x _ => .int x, ?_, ?_, fun t ht => ?_, by rw [List.length_map]; exact sz_small hl, ?_⟩
  · exact AllAlike.of fun x y => encI_alike x y
  · exact Sortable.others fun b => ⟨(fun z => by cases z), (fun xs z => by cases z)⟩
  · obtain ⟨x, _, rfl⟩ := List.mem_map.mp ht
    simp [PyData.depth]
  · rw [sortD_map]
    have e : l.mergeSort (dataLe false PyData.int) = sortI l := by
      unfold sortI
      rw [PySem.W.dataLe_int]
    rw [e]
    exact q
theorem pure__law_changed (ca : CA) (ds : List D) (G : DH) (R : DK) (EX : DX) (h : sd__law_changed ca ds G R EX) : b__law_changed ca (endsD (frg R) EX) (startD N__law_changed ds) G := by
  obtain ⟨w, j, n, m, rfl, hA, hg, hn, hm, his, q⟩ := h
  obtain ⟨y, hy⟩ := y_of hg hm
  have rel := hg.rel j y m hy hm
  have pok : m.plan.Ok := rel.plan ▸ rel.inv.plan
  have p0 := pok.m0
  have p1 := pok.m1
  have few : w.ys.length ≤ 20 := by rw [hg.len]; exact hg.few
  have hov : y.rc.over = false := by rw [rel.over, his]; rfl
  have hch : m.chs.length ≤ n := hg.chs m (List.mem_of_getElem? hm)
  show b__law_changed ca (endsD (frg R) EX) [some (.ref w.d), some (.ref w.a), some (.ref m.a), none, none, none, none, none, none] G
  unfold b__law_changed
  walk_at "wd"
  rw [ix_number (mm_of hA hm)]
  refine off_W hA (by decide) (by decide) fun kind G1 k0 k1 hA => ?_
  walk_at "wd"
  rw [ix_plan (mm_of hA hm), vix_plan3]
  refine off_W hA (by omega) (by omega) fun k G2 kk0 kk1 hA => ?_
  refine off_W hA (by omega) (by omega) fun b G3 b0 b1 hA => ?_
  have hO := own_of hA hy
  have ok := rel.ok
  have fin : ∀ (y' : LH) (m' : M) G', Rel y' m' → m'.a = m.a → m'.chs.length ≤ n + 1 → At ca G' ((w.setY j y').setM j m') → frg R (.bl true) G' := fun y' m' G' r ea hl h => frg_of (q ((w.setY j y').setM j m') G' rfl rfl rfl h (hg.set hy hm r hl (Nat.le_succ n)))
  walk_at "wd"
  by_cases c1 : kind < 2
  · rw [if_pos c1]
    have ha : G3 w.a = some (.ins ca.Hand w.hand.fs) := hO.a
    simp only [ha, la_move, true_and]
    have rm := rel.move b0 (show b ≤ 999 by omega)
    refine ⟨_, j, y, b, rfl, b0, by omega, hO, ok, hov, by show w.ys.length ≤ _; omega, rm.inv.ok, ?_⟩
    have hA := recd_of hA hy (y.rc.move b)
    dsimp only
    rw [ix_plan (mm_of hA hm)]
    unfold Plan.d Plan.ds
    walk_at "wd"
    refine ⟨by rw [sizeLine_eq]; show 4 ≤ 16777216; decide, ?_⟩
    refine setM_K hA hm { m with plan := { m.plan with b := b } } rfl rfl fun G4 hA => ?_
    have hm1 := setM_at (w := w.setY j { y with rc := y.rc.move b }) { m with plan := { m.plan with b := b } } hm
    rw [ix_version (m := { m with plan := { m.plan with b := b } }) (mm_of hA hm1)]
    walk_at "wd"
    refine setM_K hA hm1 { m with plan := { m.plan with b := b }, version := m.version + 1 } rfl rfl fun G5 hA => ?_
    rw [setM_setM] at hA
    have hm2 := setM_at (w := w.setY j { y with rc := y.rc.move b }) { m with plan := { m.plan with b := b }, version := m.version + 1 } hm
    refine setM_K hA hm2 { m with plan := { m.plan with b := b }, version := m.version + 1, chs := [] } rfl rfl fun G6 hA => ?_
    rw [setM_setM] at hA
    exact fin _ _ _ rm rfl (Nat.zero_le _) hA
  rw [if_neg c1]
  by_cases c2 : kind < 4
  · rw [if_pos c2]
    refine off_W hA (by decide) (by decide) fun r G4 r0 r1 hA => ?_
    have hO := own_of hA hy
    have one : ∀ b' : Option Int, (∀ n, b' = some n → 0 ≤ n ∧ n ≤ 999) → sd_Hand_move_one ca [.ref w.a, .int j, .int k, oD b'] G4 (fun _ G1 => dIx (.ref m.a) (.str "changes") G1 fun x_2 G1 => dAddF x_2 (.rol [.tup [.int k, oD b']]) G1 fun x_3 G1 => dSetD (.ref m.a) (.str "changes") x_3 G1 fun G3 => frg R (.bl true) G3) EX := fun b' hb' => by
      have rm := rel.moveOne (b := b') kk0 kk1
      refine ⟨_, j, y, k, b', rfl, hb', kk0, by rw [rel.plan]; exact kk1, hO, ok, hov, by show w.ys.length ≤ _; omega, rm.inv.ok, ?_⟩
      have hA := recd_of hA hy (y.rc.moveOne k b')
      dsimp only
      rw [ix_changes (mm_of hA hm)]
      rw [vadd_rol]
      refine ⟨by rw [List.length_map, List.length_singleton, sizeLine_eq]; omega, ?_⟩
      refine setM_K hA hm { m with chs := m.chs ++ [(k, b')] } rfl ?_ fun G5 hA => ?_
      · rw [← put_changes (m := m) (m.chs ++ [(k, b')]), List.map_append]; rfl
      · exact fin _ _ _ rm rfl (by rw [List.length_append]; simp; omega) hA
    refine menuD r0 r1 fun x hx => ?_
    simp only [List.mem_cons, List.not_mem_nil, or_false] at hx
    have ha : G4 w.a = some (.ins ca.Hand w.hand.fs) := hO.a
    walk_at "wd"
    simp only [ha, la_move_one, true_and]
    rcases hx with rfl | rfl
    · exact one (some b) fun n e => by cases e; omega
    · exact one none fun n e => by cases e
  rw [if_neg c2]
  by_cases c3 : kind = 4
  · rw [if_pos c3]
    refine off_W hA (by decide) (by decide) fun r G4 r0 r1 hA => ?_
    refine menuD r0 r1 fun x hx => ?_
    have nm : ∀ z : Str, isName z = true → dSetD (.ref m.a) (.str "note") (.str z) G4 fun G3 => (sDrop
                  (dMeth ca.Hand (Str.ofString "rename") (sd_Hand_rename ca) (dVar 1)
                    (dCons (dVar 3) (dCons (dOp dIx (dVar 2) (dC (D.str (Str.ofString "note")))) dNil)))
                  { nx := sRet (dC (D.bl true)) (endsD (frg R) EX), rt := frg R, ex := EX }) [some (D.ref w.d), some (D.ref w.a), some (D.ref m.a), some (D.int j), some (D.int kind), some (D.int k), some (D.int b), none, none] G3 := fun z hz => by
      refine setM_K hA hm { m with note := z } rfl rfl fun G5 hA => ?_
      have hm1 := setM_at { m with note := z } hm
      have hO := own_of (j := j) (y := y) hA hy
      have ha : G5 w.a = some (.ins ca.Hand w.hand.fs) := hO.a
      have rm := rel.name z
      walk_at "wd"
      simp only [ha, la_rename, true_and]
      rw [ix_note (m := { m with note := z }) (mm_of hA hm1)]
      refine ⟨_, j, y, z, rfl, hz, hO, ok, hov, by show w.ys.length ≤ _; omega, rm.inv.ok, ?_⟩
      exact fin _ _ _ rm rfl (by show m.chs.length ≤ _; omega) (recd_of (j := j) (y := y) hA hy _)
    simp only [List.mem_cons, List.not_mem_nil, or_false] at hx
    walk_at "wd"
    rcases hx with rfl | rfl | rfl | rfl | rfl
    · exact nm _ (by decide +kernel)
    · exact nm _ (by decide +kernel)
    · exact nm _ (by decide +kernel)
    · exact nm _ (by decide +kernel)
    · exact nm _ (by decide +kernel)
  rw [if_neg c3]
  refine off_W hA (by decide) (by decide) fun r G4 r0 r1 hA => ?_
  refine menuD r0 r1 fun xo hx => ?_
  have hz : ∃ z : Int, xo = .int z ∧ (z = 1 ∨ z = 3 ∨ z = 7) := by
    simp only [List.mem_cons, List.not_mem_nil, or_false] at hx
    rcases hx with rfl | rfl | rfl
    · exact ⟨1, rfl, .inl rfl⟩
    · exact ⟨3, rfl, .inr (.inl rfl)⟩
    · exact ⟨7, rfl, .inr (.inr rfl)⟩
  obtain ⟨z, rfl, hz⟩ := hz
  have hO := own_of hA hy
  have ha : G4 w.a = some (.ins ca.Hand w.hand.fs) := hO.a
  have hh := rel.hands
  rw [ix_guests (mm_of hA hm)]
  refine vin_ints ?_
  walk_at "wd"
  by_cases hin : z ∈ m.guests
  · rw [if_pos hin]
    simp only [ha, la_uninvite, true_and]
    have rm := rel.drop z
    refine ⟨_, j, y, z, rfl, by omega, by omega, by show z ≠ 5; omega, hO, ok, hov, by show w.ys.length ≤ _; omega, fun _ => ⟨rm.inv.ok, ?_⟩, fun hn => absurd (hh ▸ hin) hn⟩
    have hA := recd_of hA hy (y.rc.drop z)
    have hO := own_of hA (setY_at { y with rc := y.rc.drop z } hy)
    have ha : putR ca G4 y.r (y.rc.drop z) w.a = some (.ins ca.Hand w.hand.fs) := hO.a
    dsimp only
    simp only [dLcF, iSq]
    walk_at "wd"
    rw [ix_guests (mm_of hA hm)]
    dsimp only
    have hgl : m.guests.length ≤ 8 := by
      have := rel.inv.glen
      rw [rel.guests, List.length_map] at this
      exact this
    refine goLcF_map (f := fun g : Int => D.int g) (fun g : Int => if g = z then none else some (.int g)) trivial (fun g C1 C2 hc => ?_) m.guests [] (by simp; exact sz_small (by omega)) ?_
    · walk_at "wd"
      by_cases h : g = z
      · simp only [h, decide_true, Bool.not_true, Bool.false_eq_true, if_false, if_true] at hc ⊢
        exact hc
      · simp only [h, decide_false, Bool.not_false, if_false, if_true] at hc ⊢
        exact hc
    · rw [filt_ne, List.nil_append]
      refine setM_K hA hm { m with guests := m.guests.filter fun g => !decide (g = z) } rfl rfl fun G5 hA => ?_
      have hm1 := setM_at (w := w.setY j { y with rc := y.rc.drop z }) { m with guests := m.guests.filter fun g => !decide (g = z) } hm
      rw [ix_guests (m := { m with guests := m.guests.filter fun g => !decide (g = z) }) (mm_of hA hm1)]
      refine vin_ints ?_
      have hnin : z ∉ m.guests.filter fun g => !decide (g = z) := by simp
      walk_at "wd"
      rw [if_neg hnin]
      have hO := own_of hA (setY_at { y with rc := y.rc.drop z } hy)
      have ha : G5 w.a = some (.ins ca.Hand w.hand.fs) := hO.a
      simp only [dRefuse]
      walk_at "wd"
      simp only [ha, la_uninvite, true_and]
      refine ⟨_, j, _, z, rfl, by omega, by omega, by show z ≠ 5; omega, hO, rm.ok, hov, ?_, fun hi => absurd hi ?_, fun _ => ⟨rfl, rfl, fun G6 s6 => ?_⟩⟩
      · show (w.ys.set j _).length ≤ _; rw [List.length_set]; omega
      · rw [rm.hands]; exact hnin
      · exact fin _ _ _ rm rfl (by show m.chs.length ≤ _; omega) (at_sub hA s6)
  · rw [if_neg hin]
    simp only [ha, la_invite, true_and]
    have rm := rel.invite (hand := z) (by omega) (by omega) hin
    refine ⟨_, j, y, z, rfl, by omega, by omega, by show z ≠ 5; omega, hO, ok, rel.heard, hov, by show w.ys.length ≤ _; omega, fun _ => ⟨rm.ok, ?_⟩, fun hn => absurd (hh ▸ hn) hin⟩
    have hA := recd_of hA hy (invited y z).rc
    have hA := known_of hA (setY_at { y with rc := (invited y z).rc } hy) (invited y z).known
    rw [setY_setY] at hA
    have hA : At ca (updD (putR ca G4 y.r (invited y z).rc) y.kn (.dK (kvI .int (invited y z).known))) (w.setY j (invited y z)) := hA
    generalize updD (putR ca G4 y.r (invited y z).rc) y.kn (.dK (kvI .int (invited y z).known)) = G5 at hA ⊢
    have hgl : (m.guests ++ [z]).length ≤ 9 := by
      have := rel.inv.glen
      rw [rel.guests, List.length_map] at this
      rw [List.length_append, List.length_singleton]
      omega
    dsimp only
    rw [ix_guests (mm_of hA hm)]
    rw [vadd_rol]
    refine ⟨by rw [List.length_map, List.length_singleton, sizeLine_eq]; rw [List.length_append, List.length_singleton] at hgl; omega, ?_⟩
    rw [show m.guests.map D.int ++ [D.int z] = (m.guests ++ [z]).map D.int by rw [List.map_append]; rfl]
    refine sort_intsR (by omega) ?_
    refine setM_K hA hm { m with guests := sortI (m.guests ++ [z]) } rfl rfl fun G6 hA => ?_
    have hm1 := setM_at (w := w.setY j (invited y z)) { m with guests := sortI (m.guests ++ [z]) } hm
    rw [ix_guests (m := { m with guests := sortI (m.guests ++ [z]) }) (mm_of hA hm1)]
    refine vin_ints ?_
    have hyes : z ∈ sortI (m.guests ++ [z]) := (sortI_perm _).mem_iff.mpr (by simp)
    walk_at "wd"
    rw [if_pos hyes]
    have hO := own_of hA (setY_at (invited y z) hy)
    have ha : G6 w.a = some (.ins ca.Hand w.hand.fs) := hO.a
    simp only [dRefuse]
    walk_at "wd"
    simp only [ha, la_invite, true_and]
    refine ⟨_, j, _, z, rfl, by omega, by omega, by show z ≠ 5; omega, hO, rm.ok, rel.heard, hov, ?_, fun hi => absurd ?_ hi, fun _ => ⟨rfl, rfl, fun G7 s7 => ?_⟩⟩
    · show (w.ys.set j _).length ≤ _; rw [List.length_set]; omega
    · rw [rm.hands]; exact hyes
    · exact fin _ _ _ rm rfl (by show m.chs.length ≤ _; omega) (at_sub hA s7)
end K03
/-! ### k03: the book -/
namespace K03
open PySem PySem.Spec PyProof.Rows L2 Cc Pl Hd Lw
open PySem.W (EachIs AllAlike Sortable dataLe)
open K02 (Ch chD after some_ dueRow due_rows)
local macro_rules | `(tactic| walk_at "rd") => `(tactic| try simp only [sSeq, sIf, sAsg, sRet, sRetN, sDrop, sNext, gN, gT, gsCons, gsNil, gsNames, wipeD, D.tl, dTest, dAnd, dOr, dNot, dAndV, dOrV, dNotV, dIf, dOp, dUn, dVar, dC, dCons, dNil, dCB, dCall, dTup, dLst, dLstF, dYes, blD_bl, dEq_int, dNe_int, dEq_bl, dNe_bl, dEq_str, dChain, vadd_int, vadd_rol, vadd_tup, vmul_int, vsub_int, vlt_int, vle_int, vgt_int, vge_int, vmax_int, vmin_int, vneg_int, vlen_tup, vlen_rol, vtup_rol, vtup_tup, vlist_rol, vlist_tup, vix_tup, vix_rol, vat_0, vat_1, vat_2, vat_3, vat_4, vat_5, vat_6, vsl_tup, vsl_rol, visi_non_bool, visi_non_int, visi_non_str, visi_non_tuple, visi_non_list, visi_bl_bool, visi_bl_int, visi_bl_str, visi_bl_tuple, visi_bl_list, visi_int_bool, visi_int_int, visi_int_str, visi_int_tuple, visi_int_list, visi_str_bool, visi_str_int, visi_str_str, visi_str_tuple, visi_str_list, visi_tup_bool, visi_tup_int, visi_tup_str, visi_tup_tuple, visi_tup_list, visi_key_bool, visi_key_int, visi_key_str, visi_key_tuple, visi_key_list, visi_rol_bool, visi_rol_int, visi_rol_str, visi_rol_tuple, visi_rol_list, dBM, vtyL, vapp, vlen_upd, vix_upd, vsz_0, vsz_1, vsz_2, vsz_3, vsz_4, vsz_5, vsz_6, vsz_7, vsz_8, vsz_9, dIsN, dNotN, D.isN, List.getElem?_cons_zero, List.getElem?_cons_succ, List.set_cons_zero, List.set_cons_succ, List.length_cons, List.length_nil, decide_eq_true_eq, if_true, if_false, Bool.false_eq_true, ite_true, ite_false, true_and, and_true, Bool.not_true, Bool.not_false])
local macro_rules | `(tactic| walk_at "hd") => `(tactic| try simp only [sSeq, sIf, sAsg, sRet, sRetN, sDrop, sNext, gN, gT, gsCons, gsNil, gsNames, wipeD, D.tl, dTest, dAnd, dOr, dNot, dAndV, dOrV, dNotV, dIf, dOp, dUn, dVar, dC, dCons, dNil, dCB, dCall, dTup, dLst, dLstF, dYes, blD_bl, dEq_int, dNe_int, dEq_bl, dNe_bl, dEq_str, dChain, vadd_int, vadd_rol, vadd_tup, vmul_int, vsub_int, vlt_int, vle_int, vgt_int, vge_int, vmax_int, vmin_int, vneg_int, vlen_tup, vlen_rol, vtup_rol, vtup_tup, vlist_rol, vlist_tup, vix_tup, vix_rol, vat_0, vat_1, vat_2, vat_3, vat_4, vat_5, vat_6, vsl_tup, vsl_rol, visi_non_bool, visi_non_int, visi_non_str, visi_non_tuple, visi_non_list, visi_bl_bool, visi_bl_int, visi_bl_str, visi_bl_tuple, visi_bl_list, visi_int_bool, visi_int_int, visi_int_str, visi_int_tuple, visi_int_list, visi_str_bool, visi_str_int, visi_str_str, visi_str_tuple, visi_str_list, visi_tup_bool, visi_tup_int, visi_tup_str, visi_tup_tuple, visi_tup_list, visi_key_bool, visi_key_int, visi_key_str, visi_key_tuple, visi_key_list, visi_rol_bool, visi_rol_int, visi_rol_str, visi_rol_tuple, visi_rol_list, dBM, vtyL, vapp, vlen_upd, vix_upd, vsz_0, vsz_1, vsz_2, vsz_3, vsz_4, vsz_5, vsz_6, vsz_7, vsz_8, vsz_9, dIsN, dNotN, D.isN, List.getElem?_cons_zero, List.getElem?_cons_succ, List.set_cons_zero, List.set_cons_succ, List.length_cons, List.length_nil, decide_eq_true_eq, if_true, if_false, Bool.false_eq_true, ite_true, ite_false, true_and, and_true, Bool.not_true, Bool.not_false, dFld, sFldD, gF, dMeth, dMake, dTupP, dSl, oSome, oNo, updD_same, updD_updD, lk_stamp, lk_version, lk_over, lk_plan, lk_note, lk_ones, lk_guests, lk_says, lk_grow, lk_move, lk_move_one, lk_add, lk_drop, lk_hear, lk_rows, lk_told, lk_hands, lk_say_of, lk_parts, pf_stamp, pf_version, pf_over, pf_plan, pf_note, pf_ones, pf_ones0, pf_guests, pf_says, fs_len, lt8, vsl_plan, pf_plan2, vix_plan1, vix_plan3])
local macro_rules | `(tactic| walk_at "wd") => `(tactic| try simp only [sSeq, sIf, sAsg, sRet, sRetN, sDrop, sNext, gN, gT, gsCons, gsNil, gsNames, wipeD, D.tl, dTest, dAnd, dOr, dNot, dAndV, dOrV, dNotV, dIf, dOp, dUn, dVar, dC, dCons, dNil, dCB, dCall, dTup, dLst, dLstF, dYes, blD_bl, dEq_int, dNe_int, dEq_bl, dNe_bl, dEq_str, dChain, vadd_int, vadd_rol, vadd_tup, vmul_int, vsub_int, vlt_int, vle_int, vgt_int, vge_int, vmax_int, vmin_int, vneg_int, vlen_tup, vlen_rol, vtup_rol, vtup_tup, vlist_rol, vlist_tup, vix_tup, vix_rol, vat_0, vat_1, vat_2, vat_3, vat_4, vat_5, vat_6, vsl_tup, vsl_rol, visi_non_bool, visi_non_int, visi_non_str, visi_non_tuple, visi_non_list, visi_bl_bool, visi_bl_int, visi_bl_str, visi_bl_tuple, visi_bl_list, visi_int_bool, visi_int_int, visi_int_str, visi_int_tuple, visi_int_list, visi_str_bool, visi_str_int, visi_str_str, visi_str_tuple, visi_str_list, visi_tup_bool, visi_tup_int, visi_tup_str, visi_tup_tuple, visi_tup_list, visi_key_bool, visi_key_int, visi_key_str, visi_key_tuple, visi_key_list, visi_rol_bool, visi_rol_int, visi_rol_str, visi_rol_tuple, visi_rol_list, dBM, vtyL, vapp, vlen_upd, vix_upd, vsz_0, vsz_1, vsz_2, vsz_3, vsz_4, vsz_5, vsz_6, vsz_7, vsz_8, vsz_9, dIsN, dNotN, D.isN, List.getElem?_cons_zero, List.getElem?_cons_succ, List.set_cons_zero, List.set_cons_succ, List.length_cons, List.length_nil, decide_eq_true_eq, if_true, if_false, Bool.false_eq_true, ite_true, ite_false, true_and, and_true, Bool.not_true, Bool.not_false, dFld, sFldD, gF, dMeth, dMake, dTupP, dSl, oSome, oNo, updD_same, updD_updD, lk_stamp, lk_version, lk_over, lk_plan, lk_note, lk_ones, lk_guests, lk_says, lk_grow, lk_move, lk_move_one, lk_add, lk_drop, lk_hear, lk_rows, lk_told, lk_hands, lk_say_of, lk_parts, pf_stamp, pf_version, pf_over, pf_plan, pf_note, pf_ones, pf_ones0, pf_guests, pf_says, fs_len, lt8, vsl_plan, pf_plan2, vix_plan1, vix_plan3, veqE_rol, vneE_rol, gS])
theorem sub_new {G0 G : DH} {p : Addr} {c : C} (s : Sub G0 G) (h : G0 p = none) : Sub G0 (updD G p c) := fun b u e => by
  rw [updD_ne (neD e h)]; exact s b u e
def LstAt (G : DH) (a : Addr) (k : Nat) : Prop := ∃ l, G a = some (.lst l) ∧ l.length ≤ k
theorem LstAt.upd {G : DH} {a b : Addr} {k : Nat} {l : List D} (h : LstAt G a k) (hl : l.length ≤ k) : LstAt (updD G b (.lst l)) a k := by
  by_cases hab : a = b
  · subst hab
    exact ⟨l, updD_same, hl⟩
  · obtain ⟨l2, h1, h2⟩ := h
    exact ⟨l2, by rw [updD_ne hab]; exact h1, h2⟩
theorem LstAt.mono {G : DH} {a : Addr} {k n : Nat} (h : LstAt G a k) (e : k ≤ n) : LstAt G a n := by
  obtain ⟨l2, h1, h2⟩ := h
  exact ⟨l2, h1, Nat.le_trans h2 e⟩
def RowOk (G0 G : DH) (b : Addr) (k : Nat) (row : D) : Prop := ∃ (t : Told) (q p : Addr), row = t.dr q p ∧ G0 q = none ∧ G0 p = none ∧ q ≠ b ∧ p ≠ b ∧ LstAt G q k ∧ LstAt G p k
theorem RowOk.upd {G0 G : DH} {b a : Addr} {k : Nat} {row : D} {l : List D} (h : RowOk G0 G b k row) (hl : l.length ≤ k) : RowOk G0 (updD G a (.lst l)) b k row := by
  obtain ⟨t, q, p, e, q0, p0, qb, pb, h1, h2⟩ := h
  exact ⟨t, q, p, e, q0, p0, qb, pb, h1.upd hl, h2.upd hl⟩
theorem RowOk.mono {G0 G : DH} {b : Addr} {k n : Nat} {row : D} (h : RowOk G0 G b k row) (e : k ≤ n) : RowOk G0 G b n row := by
  obtain ⟨t, q, p, e1, q0, p0, qb, pb, h1, h2⟩ := h
  exact ⟨t, q, p, e1, q0, p0, qb, pb, h1.mono e, h2.mono e⟩
theorem spoil_ok {G0 G : DH} {b : Addr} {rows : List D} {Dn : DEnds} {x0 x1 x2 x3 x4 x5 x6 x7 x8 x9 x10 x11 x12 x13 o15 : Option D} (s : Sub G0 G) (hb : G b = some (.lst rows)) (hr : ∀ row ∈ rows, RowOk G0 G b 1000 row) (hl : rows.length ≤ 1000)
    (q : ∀ G' o15, Sub G0 G' → G' b = some (.lst rows) → Dn.nx [x0, x1, x2, x3, x4, x5, x6, x7, x8, x9, x10, x11, x12, x13, some (.ref b), o15] G') :
    spoilS Dn [x0, x1, x2, x3, x4, x5, x6, x7, x8, x9, x10, x11, x12, x13, some (.ref b), o15] G := by
  unfold spoilS sFor iSq
  walk_at "wd"
  refine ⟨rows, hb, ?_⟩
  refine goFor_by (fun xs δ G' => (∃ o15, δ = [x0, x1, x2, x3, x4, x5, x6, x7, x8, x9, x10, x11, x12, x13, some (.ref b), o15]) ∧ Sub G0 G' ∧ G' b = some (.lst rows) ∧ ∃ pre, rows = pre ++ xs ∧ ∀ row ∈ rows, RowOk G0 G' b (1000 + pre.length) row)
    (fun xs δ G' h => h.2.2.1) (fun δ G' ⟨⟨o15, e⟩, s, hb, _⟩ => ?_) (fun x xs δ G' N ⟨⟨o15, e⟩, s, hb, pre, ep, hr⟩ hN => ?_) _ _ _ ⟨⟨_, rfl⟩, s, hb, [], rfl, hr⟩
  · subst e
    exact q G' o15 s hb
  · subst e
    have hx := hr x (by rw [ep]; simp)
    have hpl : pre.length ≤ 1000 := by
      have := congrArg List.length ep
      rw [List.length_append] at this
      omega
    obtain ⟨t, qa, pa, rfl, q0, p0, qb, pb, ⟨l1, h1, hl1⟩, h2⟩ := hx
    have z := sizeLine_eq
    unfold Told.dr
    walk_at "wd"
    refine ⟨ty_lst h1, ?_⟩
    refine app_at h1 (by omega) ?_
    have s1 := sub_new (c := .lst (l1 ++ [D.tup []])) s q0
    have hlen : (l1 ++ [D.tup []]).length ≤ 1000 + (pre.length + 1) := by rw [List.length_append, List.length_singleton]; omega
    have h2 := (h2.mono (show _ ≤ 1000 + (pre.length + 1) by omega)).upd (b := qa) hlen
    have hb1 : updD G' qa (.lst (l1 ++ [D.tup []])) b = some (.lst rows) := by rw [updD_ne (Ne.symm qb)]; exact hb
    have hr1 : ∀ row ∈ rows, RowOk G0 (updD G' qa (.lst (l1 ++ [D.tup []]))) b (1000 + (pre.length + 1)) row := fun row hrow => ((hr row hrow).mono (by omega)).upd hlen
    obtain ⟨l2, h2, hl2⟩ := h2
    walk_at "wd"
    refine ⟨ty_lst h2, ?_⟩
    refine ⟨⟨l2, h2⟩, ?_⟩
    refine hN _ _ ⟨⟨_, rfl⟩, sub_new s1 p0, by rw [updD_ne (Ne.symm pb)]; exact hb1, pre ++ [t.dr qa pa], by rw [List.append_assoc]; exact ep, fun row hrow => ?_⟩
    rw [List.length_append, List.length_singleton]
    exact (hr1 row hrow).upd (Nat.zero_le _)
theorem find_map {α β : Type} (p : β → Bool) (f : α → β) (l : List α) : (l.map f).find? p = (l.find? (fun x => p (f x))).map f := by
  induction l with
  | nil => rfl
  | cons x l ih =>
    rw [List.map_cons, List.find?_cons, List.find?_cons, ih]
    cases p (f x) <;> rfl
theorem rel_told {y : LH} {m : M} (h : Rel y m) (j : Nat) : y.rc.told 5 j none nothing = m.told j := by
  have hs : ∀ g, y.rc.sayOf g = nothing := fun g => by
    unfold Rec.sayOf
    cases e : y.rc.says.find? (fun s => decide (s.1 = g)) with
    | none => rfl
    | some s => exact h.says s (List.mem_of_find?_eq_some e)
  have hw : ∀ v os (k : Int), wordOf nothing v os k = "asked" := fun v os k => rfl
  unfold Rec.told M.told
  rw [h.version, h.note, h.plan, h.ones, h.guests, due_rows, List.map_map]
  congr 1
  refine List.map_congr_left fun g _ => ?_
  show ToldG.mk g none (Hd.wordsOf (if some g = none then nothing else y.rc.sayOf g) _ _ _) = _
  rw [if_neg (by simp), hs]
  unfold Hd.wordsOf
  congr 1
  have e : (List.range m.plan.m.toNat).map (fun k : Nat => wordOf nothing m.version (after m.chs) (k : Int)) = (List.range m.plan.m.toNat).map (fun _ => ("asked" : Str)) := List.map_congr_left fun k _ => hw _ _ _
  rw [e, List.map_const', List.length_range]
def toldF (p : M × Nat) : Option D := if p.1.is = true then some (p.1.told p.2).d else none
theorem own_told : ∀ (ys : List LH) (ms : List M) (i : Nat), ys.length = ms.length → (∀ (j : Nat) y m, ys[j]? = some y → ms[j]? = some m → Rel y m) → (ms.zipIdx i).filterMap toldF = (ownTold 5 i ys).map Told.d
  | [], [], _, _, _ => rfl
  | [], _ :: _, _, h, _ => by cases h
  | _ :: _, [], _, h, _ => by cases h
  | y :: ys, m :: ms, i, h, hr => by
    have r := hr 0 y m rfl rfl
    have ih := own_told ys ms (i + 1) (by simpa using h) fun j y m h1 h2 => hr (j + 1) y m (by simpa using h1) (by simpa using h2)
    rw [List.zipIdx_cons, List.filterMap_cons, ih, ownTold_cons, r.over]
    have e : toldF (m, i) = if m.is = true then some (m.told i).d else none := rfl
    rw [e]
    cases hi : m.is with
    | true =>
      have e2 := rel_told r i
      simp only [if_true, Bool.not_true, Bool.false_eq_true, if_false, List.map_cons, e2]
    | false => simp only [Bool.not_false, Bool.false_eq_true, if_false, if_true]
theorem zip_map (ms : List M) : (ms.map fun m => D.ref m.a) = ms.zipIdx.map fun p => D.ref p.1.a := by
  have e : ms.zipIdx.map (fun p => D.ref p.1.a) = (ms.zipIdx.map Prod.fst).map fun m => D.ref m.a := by rw [List.map_map]; rfl
  rw [e, List.zipIdx_map_fst]
theorem each_at {α β : Type} {P : α → β → Prop} : ∀ {as : List α} {bs : List β} {i : Nat} {a : α} {b : β}, EachIs P as bs → as[i]? = some a → bs[i]? = some b → P a b
  | _, _, _, _, _, .nil, h, _ => by simp at h
  | _, _, 0, _, _, .cons h t, e, e' => by simp at e e'; subst e e'; exact h
  | _, _, i + 1, _, _, .cons h t, e, e' => each_at (i := i) t (by simpa using e) (by simpa using e')
theorem tup_len {t : Told} {q p : Addr} {l l' : List D} (h : t.dr q p ∈ l) (e : l = l') (h3 : ∀ d ∈ l', ∃ x y z, d = .tup [x, y, z]) : False := by
  subst e
  obtain ⟨x, y, z, e⟩ := h3 _ h
  unfold Told.dr at e
  cases e
theorem book_ok {ca : CA} {G : DH} {w : Wd} {n : Nat} {Dn : DEnds} {x0 x4 x5 x6 x7 x8 x9 x10 x11 x12 o13 o14 o15 : Option D} (hA : At ca G w) (hg : Gd w n) (hn : n ≤ 1000)
    (q : ∀ G' o13 o14 o15, At ca G' w → Dn.nx [x0, some (.ref w.d), some (.ref w.a), some (.ref w.lo), x4, x5, x6, x7, x8, x9, x10, x11, x12, o13, o14, o15] G') :
    bookS ca Dn [x0, some (.ref w.d), some (.ref w.a), some (.ref w.lo), x4, x5, x6, x7, x8, x9, x10, x11, x12, o13, o14, o15] G := by
  unfold bookS sFor iRange1
  walk_at "wd"
  refine ⟨⟨by omega, by omega⟩, ?_⟩
  rw [rangeD_map]
  refine goFor_map (f := fun i : Nat => D.int (i : Int)) (fun xs δ G' => (∃ o13 o14 o15, δ = [x0, some (.ref w.d), some (.ref w.a), some (.ref w.lo), x4, x5, x6, x7, x8, x9, x10, x11, x12, o13, o14, o15]) ∧ At ca G' w)
    (fun _ _ _ _ => trivial) (fun δ G' ⟨⟨o13, o14, o15, e⟩, hA⟩ => ?_) (fun x xs δ G' N ⟨⟨o13, o14, o15, e⟩, hA⟩ hN => ?_) _ _ _ ⟨⟨_, _, _, rfl⟩, hA⟩
  · subst e
    exact q _ _ _ _ hA
  · subst e
    have hB := base_of hA
    have ha : G' w.a = some (.ins ca.Hand w.hand.fs) := hB.a
    have few : w.ys.length ≤ 20 := by rw [hg.len]; exact hg.few
    have relOf : ∀ y ∈ w.ys, ∃ (j : Nat) (m : M), w.ys[j]? = some y ∧ w.ms[j]? = some m ∧ Rel y m := fun y hy => by
      obtain ⟨j, hj, e⟩ := List.mem_iff_getElem.mp hy
      have h2 : j < w.ms.length := by rw [← hg.len]; exact hj
      have e1 : w.ys[j]? = some y := by rw [List.getElem?_eq_getElem hj, e]
      exact ⟨j, w.ms[j], e1, List.getElem?_eq_getElem h2, hg.rel j y _ e1 (List.getElem?_eq_getElem h2)⟩
    walk_at "wd"
    simp only [ha, la_book, true_and]
    refine ⟨w.hand, rfl, hB, rfl, fun y hy => ?_, by show w.ys.length ≤ _; omega, fun G1 b rows s1 hb0 hb ea => ?_⟩
    · obtain ⟨j, m, e1, e2, r⟩ := relOf y hy
      exact ⟨host_of hA e1, r.inv.ok⟩
    have hA1 := at_sub hA s1
    have ea : EachIs (TAt G' G1) rows (ownTold 5 0 w.ys) := ea
    walk_at "wd"
    simp only [dLcF, iSq]
    walk_at "wd"
    refine ⟨_, low_of hA1, ?_⟩
    rw [zip_map]
    refine goLcF_mem (f := fun p : M × Nat => D.ref p.1.a) toldF (by rw [← zip_map]; exact low_of hA1) w.ms.zipIdx [] (fun p hp C1 C2 hc => ?_) (by rw [List.length_zipIdx]; simp; exact sz_small (by have := hg.few; omega)) ?_
    · obtain ⟨m, j⟩ := p
      have hm : w.ms[j]? = some m := List.mem_zipIdx_iff_getElem?.mp hp
      obtain ⟨y, hy⟩ := y_of hg hm
      have r := hg.rel j y m hy hm
      unfold toldF at hc
      walk_at "wd"
      rw [ix_is (mm_of hA1 hm)]
      walk_at "wd"
      cases hi : m.is with
      | false =>
        simp only [hi, Bool.false_eq_true, if_false] at hc ⊢
        exact hc
      | true =>
        simp only [hi, if_true] at hc ⊢
        refine ⟨m, j, rfl, mm_of hA1 hm, r.plan ▸ r.inv.plan, by have := hg.chs m (List.mem_of_getElem? hm); omega, ?_, hc⟩
        have := r.inv.glen
        rw [r.guests, List.length_map] at this
        omega
    · rw [List.nil_append, own_told w.ys w.ms 0 hg.len hg.rel]
      have hlen := ownTold_len 5 w.ys 0
      have hok : ∀ t ∈ ownTold 5 0 w.ys, t.Ok := by
        have key : ∀ (ys : List LH) (i : Nat), (∀ y ∈ ys, y.rc.Inv) → ∀ t ∈ ownTold 5 i ys, t.Ok := fun ys => by
          induction ys with
          | nil => intro i _ t ht; cases ht
          | cons y ys ih =>
            intro i hi t ht
            rw [ownTold_cons] at ht
            split at ht
            · exact ih (i + 1) (fun y hy => hi y (List.mem_cons_of_mem _ hy)) t ht
            · rcases List.mem_cons.mp ht with rfl | ht
              · exact (hi y List.mem_cons_self).told _ _ _ _
              · exact ih (i + 1) (fun y hy => hi y (List.mem_cons_of_mem _ hy)) t ht
        exact key w.ys 0 fun y hy => by obtain ⟨j, m, _, _, r⟩ := relOf y hy; exact r.inv
      refine ⟨.ref b, .rol ((ownTold 5 0 w.ys).map Told.d), .list ((ownTold 5 0 w.ys).map Told.p), rfl, .lst hb (rddL_tat ea), .rol (rdd_map fun t _ => rdd_told t), ?_, ?_, ?_⟩
      · have : PyData.depthAll ((ownTold 5 0 w.ys).map Told.p) ≤ 4 := dep_map fun t _ => told_dep t
        simp only [PyData.depth]
        omega
      · have : leanAll ((ownTold 5 0 w.ys).map Told.p) = true := lean_map fun t ht => told_lean (hok t ht)
        simp only [lean, this, Bool.and_true, decide_eq_true_eq, List.length_map]
        omega
      · walk_at "wd"
        have rlen : rows.length ≤ 20 := by rw [ea.length]; omega
        refine spoil_ok (G0 := G') s1 hb (fun row hrow => ?_) (by omega) fun G2 o15 s2 hb2 => ?_
        · obtain ⟨i, hi, e⟩ := List.mem_iff_getElem.mp hrow
          have hi2 : i < (ownTold 5 0 w.ys).length := by rw [← ea.length]; exact hi
          have hta := each_at ea (show rows[i]? = some row by rw [List.getElem?_eq_getElem hi, e]) (List.getElem?_eq_getElem hi2)
          obtain ⟨qa, pa, er, q0, p0, h1, h2⟩ := hta
          have ht := hok _ (List.getElem_mem hi2)
          refine ⟨_, qa, pa, er, q0, p0, fun z => ?_, fun z => ?_, ⟨_, h1, by rw [List.length_map]; exact ht.rows⟩, ⟨_, h2, by rw [List.length_map]; exact ht.guests⟩⟩
          · subst z
            rw [hb] at h1
            cases h1
            obtain ⟨r, _, e3⟩ := List.mem_map.mp hrow
            rw [er] at e3
            simp [Told.dr, Pl.Row.d, ToldG.d] at e3
          · subst z
            rw [hb] at h2
            cases h2
            obtain ⟨r, _, e3⟩ := List.mem_map.mp hrow
            rw [er] at e3
            simp [Told.dr, Pl.Row.d, ToldG.d] at e3
        · walk_at "wd"
          refine ⟨ty_lst hb2, ?_⟩
          refine app_at hb2 (by rw [sizeLine_eq]; omega) ?_
          refine hN _ _ ⟨⟨_, _, _, rfl⟩, at_sub hA (sub_new s2 hb0)⟩
end K03
/-! ### k03: a turn -/
namespace K03
open PySem PySem.Spec PyProof.Rows L2 Cc Pl Hd Lw
open PySem.W (EachIs AllAlike Sortable dataLe)
open K02 (Ch chD after some_ dueRow due_rows)
local macro_rules | `(tactic| walk_at "rd") => `(tactic| try simp only [sSeq, sIf, sAsg, sRet, sRetN, sDrop, sNext, gN, gT, gsCons, gsNil, gsNames, wipeD, D.tl, dTest, dAnd, dOr, dNot, dAndV, dOrV, dNotV, dIf, dOp, dUn, dVar, dC, dCons, dNil, dCB, dCall, dTup, dLst, dLstF, dYes, blD_bl, dEq_int, dNe_int, dEq_bl, dNe_bl, dEq_str, dChain, vadd_int, vadd_rol, vadd_tup, vmul_int, vsub_int, vlt_int, vle_int, vgt_int, vge_int, vmax_int, vmin_int, vneg_int, vlen_tup, vlen_rol, vtup_rol, vtup_tup, vlist_rol, vlist_tup, vix_tup, vix_rol, vat_0, vat_1, vat_2, vat_3, vat_4, vat_5, vat_6, vsl_tup, vsl_rol, visi_non_bool, visi_non_int, visi_non_str, visi_non_tuple, visi_non_list, visi_bl_bool, visi_bl_int, visi_bl_str, visi_bl_tuple, visi_bl_list, visi_int_bool, visi_int_int, visi_int_str, visi_int_tuple, visi_int_list, visi_str_bool, visi_str_int, visi_str_str, visi_str_tuple, visi_str_list, visi_tup_bool, visi_tup_int, visi_tup_str, visi_tup_tuple, visi_tup_list, visi_key_bool, visi_key_int, visi_key_str, visi_key_tuple, visi_key_list, visi_rol_bool, visi_rol_int, visi_rol_str, visi_rol_tuple, visi_rol_list, dBM, vtyL, vapp, vlen_upd, vix_upd, vsz_0, vsz_1, vsz_2, vsz_3, vsz_4, vsz_5, vsz_6, vsz_7, vsz_8, vsz_9, dIsN, dNotN, D.isN, List.getElem?_cons_zero, List.getElem?_cons_succ, List.set_cons_zero, List.set_cons_succ, List.length_cons, List.length_nil, decide_eq_true_eq, if_true, if_false, Bool.false_eq_true, ite_true, ite_false, true_and, and_true, Bool.not_true, Bool.not_false])
local macro_rules | `(tactic| walk_at "hd") => `(tactic| try simp only [sSeq, sIf, sAsg, sRet, sRetN, sDrop, sNext, gN, gT, gsCons, gsNil, gsNames, wipeD, D.tl, dTest, dAnd, dOr, dNot, dAndV, dOrV, dNotV, dIf, dOp, dUn, dVar, dC, dCons, dNil, dCB, dCall, dTup, dLst, dLstF, dYes, blD_bl, dEq_int, dNe_int, dEq_bl, dNe_bl, dEq_str, dChain, vadd_int, vadd_rol, vadd_tup, vmul_int, vsub_int, vlt_int, vle_int, vgt_int, vge_int, vmax_int, vmin_int, vneg_int, vlen_tup, vlen_rol, vtup_rol, vtup_tup, vlist_rol, vlist_tup, vix_tup, vix_rol, vat_0, vat_1, vat_2, vat_3, vat_4, vat_5, vat_6, vsl_tup, vsl_rol, visi_non_bool, visi_non_int, visi_non_str, visi_non_tuple, visi_non_list, visi_bl_bool, visi_bl_int, visi_bl_str, visi_bl_tuple, visi_bl_list, visi_int_bool, visi_int_int, visi_int_str, visi_int_tuple, visi_int_list, visi_str_bool, visi_str_int, visi_str_str, visi_str_tuple, visi_str_list, visi_tup_bool, visi_tup_int, visi_tup_str, visi_tup_tuple, visi_tup_list, visi_key_bool, visi_key_int, visi_key_str, visi_key_tuple, visi_key_list, visi_rol_bool, visi_rol_int, visi_rol_str, visi_rol_tuple, visi_rol_list, dBM, vtyL, vapp, vlen_upd, vix_upd, vsz_0, vsz_1, vsz_2, vsz_3, vsz_4, vsz_5, vsz_6, vsz_7, vsz_8, vsz_9, dIsN, dNotN, D.isN, List.getElem?_cons_zero, List.getElem?_cons_succ, List.set_cons_zero, List.set_cons_succ, List.length_cons, List.length_nil, decide_eq_true_eq, if_true, if_false, Bool.false_eq_true, ite_true, ite_false, true_and, and_true, Bool.not_true, Bool.not_false, dFld, sFldD, gF, dMeth, dMake, dTupP, dSl, oSome, oNo, updD_same, updD_updD, lk_stamp, lk_version, lk_over, lk_plan, lk_note, lk_ones, lk_guests, lk_says, lk_grow, lk_move, lk_move_one, lk_add, lk_drop, lk_hear, lk_rows, lk_told, lk_hands, lk_say_of, lk_parts, pf_stamp, pf_version, pf_over, pf_plan, pf_note, pf_ones, pf_ones0, pf_guests, pf_says, fs_len, lt8, vsl_plan, pf_plan2, vix_plan1, vix_plan3])
local macro_rules | `(tactic| walk_at "wd") => `(tactic| try simp only [sSeq, sIf, sAsg, sRet, sRetN, sDrop, sNext, gN, gT, gsCons, gsNil, gsNames, wipeD, D.tl, dTest, dAnd, dOr, dNot, dAndV, dOrV, dNotV, dIf, dOp, dUn, dVar, dC, dCons, dNil, dCB, dCall, dTup, dLst, dLstF, dYes, blD_bl, dEq_int, dNe_int, dEq_bl, dNe_bl, dEq_str, dChain, vadd_int, vadd_rol, vadd_tup, vmul_int, vsub_int, vlt_int, vle_int, vgt_int, vge_int, vmax_int, vmin_int, vneg_int, vlen_tup, vlen_rol, vtup_rol, vtup_tup, vlist_rol, vlist_tup, vix_tup, vix_rol, vat_0, vat_1, vat_2, vat_3, vat_4, vat_5, vat_6, vsl_tup, vsl_rol, visi_non_bool, visi_non_int, visi_non_str, visi_non_tuple, visi_non_list, visi_bl_bool, visi_bl_int, visi_bl_str, visi_bl_tuple, visi_bl_list, visi_int_bool, visi_int_int, visi_int_str, visi_int_tuple, visi_int_list, visi_str_bool, visi_str_int, visi_str_str, visi_str_tuple, visi_str_list, visi_tup_bool, visi_tup_int, visi_tup_str, visi_tup_tuple, visi_tup_list, visi_key_bool, visi_key_int, visi_key_str, visi_key_tuple, visi_key_list, visi_rol_bool, visi_rol_int, visi_rol_str, visi_rol_tuple, visi_rol_list, dBM, vtyL, vapp, vlen_upd, vix_upd, vsz_0, vsz_1, vsz_2, vsz_3, vsz_4, vsz_5, vsz_6, vsz_7, vsz_8, vsz_9, dIsN, dNotN, D.isN, List.getElem?_cons_zero, List.getElem?_cons_succ, List.set_cons_zero, List.set_cons_succ, List.length_cons, List.length_nil, decide_eq_true_eq, if_true, if_false, Bool.false_eq_true, ite_true, ite_false, true_and, and_true, Bool.not_true, Bool.not_false, dFld, sFldD, gF, dMeth, dMake, dTupP, dSl, oSome, oNo, updD_same, updD_updD, lk_stamp, lk_version, lk_over, lk_plan, lk_note, lk_ones, lk_guests, lk_says, lk_grow, lk_move, lk_move_one, lk_add, lk_drop, lk_hear, lk_rows, lk_told, lk_hands, lk_say_of, lk_parts, pf_stamp, pf_version, pf_over, pf_plan, pf_note, pf_ones, pf_ones0, pf_guests, pf_says, fs_len, lt8, vsl_plan, pf_plan2, vix_plan1, vix_plan3, veqE_rol, vneE_rol, gS])
theorem snoc_get {α : Type} (l : List α) (x : α) (i : Nat) : (l ++ [x])[i]? = if i = l.length then some x else l[i]? := by
  rw [List.getElem?_append]
  split
  · rename_i h
    rw [if_neg (by omega)]
  · rename_i h
    by_cases e : i = l.length
    · subst e; simp
    · rw [if_neg e, List.getElem?_eq_none (by simp; omega), List.getElem?_eq_none (by omega)]
theorem atI_last {α : Type} (l : List α) (x : α) : L2.atI (l ++ [x]) (-1) = some x := by
  rw [vat_last (by simp)]
  simp
theorem plan_W {ca : CA} {G : DH} {w : Wd} {R : DK} {EX : DX} (hA : At ca G w) (q : ∀ (p : Plan) G', p.Ok → At ca G' w → R p.d G') : sd__law_plan [.ref w.d] G R EX := by
  obtain ⟨l, d, h⟩ := hA
  exact ⟨w.d, l, rfl, h.get (t := .draws) rfl, d, fun p l' ok dl => q p _ ok ⟨l', dl, draws_of h l'⟩⟩
theorem mixed_W {ca : CA} {G : DH} {w : Wd} {R : DK} {EX : DX} {ns : List Int} {x : List D} (hA : At ca G w) (hx : x = ns.map .int) (hl : ns.length ≤ 1000) (q : ∀ (ms : List Int) G', ms.Perm ns → At ca G' w → R (.rol (ms.map .int)) G') : sd__law_mixed [.ref w.d, .rol x] G R EX := by
  obtain ⟨l, d, h⟩ := hA
  subst hx
  exact ⟨w.d, l, ns, rfl, h.get (t := .draws) rfl, d, hl, fun p l' ok dl => q p _ ok ⟨l', dl, draws_of h l'⟩⟩
def isRef (p : M × Nat) : Option D := if p.1.is = true then some (.ref p.1.a) else none
theorem there_ok {ca : CA} {G : DH} {w : Wd} {n : Nat} {Dn : DEnds} {x0 x4 x5 x6 o7 o8 o9 o10 o11 o12 o13 o14 o15 : Option D} (hA : At ca G w) (hg : Gd w n)
    (q : ∀ th : List D, (∀ d ∈ th, ∃ (j : Nat) (m : M), w.ms[j]? = some m ∧ m.is = true ∧ d = .ref m.a) → th.length ≤ 20 → Dn.nx [x0, some (.ref w.d), some (.ref w.a), some (.ref w.lo), x4, x5, x6, some (.rol th), o8, o9, o10, o11, o12, o13, o14, o15] G) :
    thereS Dn [x0, some (.ref w.d), some (.ref w.a), some (.ref w.lo), x4, x5, x6, o7, o8, o9, o10, o11, o12, o13, o14, o15] G := by
  unfold thereS
  walk_at "wd"
  simp only [dLcF, iSq]
  walk_at "wd"
  refine ⟨_, low_of hA, ?_⟩
  rw [zip_map]
  refine goLcF_mem (f := fun p : M × Nat => D.ref p.1.a) isRef (by rw [← zip_map]; exact low_of hA) w.ms.zipIdx [] (fun p hp C1 C2 hc => ?_) (by rw [List.length_zipIdx]; simp; exact sz_small (by have := hg.few; omega)) ?_
  · obtain ⟨m, j⟩ := p
    have hm : w.ms[j]? = some m := List.mem_zipIdx_iff_getElem?.mp hp
    unfold isRef at hc
    walk_at "wd"
    rw [ix_is (mm_of hA hm)]
    walk_at "wd"
    cases hi : m.is with
    | false =>
      simp only [hi, Bool.false_eq_true, if_false] at hc ⊢
      exact hc
    | true =>
      simp only [hi, if_true] at hc ⊢
      exact hc
  · rw [List.nil_append]
    refine q _ (fun d hd => ?_) ?_
    · obtain ⟨p, hp, e⟩ := List.mem_filterMap.mp hd
      obtain ⟨m, j⟩ := p
      unfold isRef at e
      dsimp only at e
      split at e
      · rename_i hi
        cases e
        exact ⟨j, m, List.mem_zipIdx_iff_getElem?.mp hp, hi, rfl⟩
      · cases e
    · refine Nat.le_trans (List.length_filterMap_le _ _) ?_
      rw [List.length_zipIdx]
      exact hg.few
theorem deed_ok {ca : CA} {G : DH} {w : Wd} {n : Nat} {Dn : DEnds} {th : List D} {x0 x4 x5 x6 o8 o9 o10 o11 o12 o13 o14 o15 : Option D} (hA : At ca G w) (hg : Gd w n) (hn : n ≤ 200)
    (ht : ∀ d ∈ th, ∃ (j : Nat) (m : M), w.ms[j]? = some m ∧ m.is = true ∧ d = .ref m.a) (hl : th.length ≤ 20)
    (q : ∀ w' G' o8, w'.d = w.d → w'.a = w.a → w'.lo = w.lo → At ca G' w' → Gd w' (n + 1) → Dn.nx [x0, some (.ref w.d), some (.ref w.a), some (.ref w.lo), x4, x5, x6, some (.rol th), o8, o9, o10, o11, o12, o13, o14, o15] G') :
    deedS ca Dn [x0, some (.ref w.d), some (.ref w.a), some (.ref w.lo), x4, x5, x6, some (.rol th), o8, o9, o10, o11, o12, o13, o14, o15] G := by
  unfold deedS
  walk_at "wd"
  cases th with
  | nil =>
    simp only [List.isEmpty_nil, Bool.not_true, Bool.false_eq_true, if_false]
    walk_at "wd"
    exact q w G _ rfl rfl rfl hA (hg.mono (Nat.le_succ n))
  | cons d0 th =>
    simp only [List.isEmpty_cons, Bool.not_false, if_true]
    walk_at "wd"
    refine off_W hA (by rw [List.length_cons] at *; omega) (by rw [List.length_cons] at *; omega) fun r G1 r0 r1 hA => ?_
    refine menuD r0 r1 fun x hx => ?_
    obtain ⟨j, m, hm, hi, rfl⟩ := ht x hx
    obtain ⟨y, hy⟩ := y_of hg hm
    have rel := hg.rel j y m hy hm
    have few : w.ys.length ≤ 20 := by rw [hg.len]; exact hg.few
    have hov : y.rc.over = false := by rw [rel.over, hi]; rfl
    walk_at "wd"
    refine off_W hA (by decide) (by decide) fun r G2 r0 r1 hA => ?_
    walk_at "wd"
    have hO := own_of hA hy
    have ha : G2 w.a = some (.ins ca.Hand w.hand.fs) := hO.a
    by_cases hr : r = 0
    · rw [if_pos hr]
      simp only [ha, la_call_off, true_and]
      rw [ix_number (mm_of hA hm)]
      have rm := rel.off
      refine ⟨_, j, y, rfl, hO, rel.ok, hov, by show w.ys.length ≤ _; omega, rm.inv.ok, ?_⟩
      have hA := recd_of hA hy (Rec.grow { y.rc with over := true })
      refine setM_K hA hm { m with is := false } rfl rfl fun G3 hA => ?_
      exact q ((w.setY j { y with rc := Rec.grow { y.rc with over := true } }).setM j { m with is := false }) _ _ rfl rfl rfl hA (hg.set hy hm rm (by have := hg.chs m (List.mem_of_getElem? hm); show m.chs.length ≤ _; omega) (Nat.le_succ n))
    · rw [if_neg hr]
      refine ⟨w, j, n, m, rfl, hA, hg, hn, hm, hi, fun w' G' e1 e2 e3 hA' hg' => ?_⟩
      walk_at "wd"
      exact q w' G' _ e1 e2 e3 hA' hg'
end K03
/-! ### k03: a call -/
namespace K03
open PySem PySem.Spec PyProof.Rows L2 Cc Pl Hd Lw
open PySem.W (EachIs AllAlike Sortable dataLe)
open K02 (Ch chD after some_ dueRow due_rows)
local macro_rules | `(tactic| walk_at "rd") => `(tactic| try simp only [sSeq, sIf, sAsg, sRet, sRetN, sDrop, sNext, gN, gT, gsCons, gsNil, gsNames, wipeD, D.tl, dTest, dAnd, dOr, dNot, dAndV, dOrV, dNotV, dIf, dOp, dUn, dVar, dC, dCons, dNil, dCB, dCall, dTup, dLst, dLstF, dYes, blD_bl, dEq_int, dNe_int, dEq_bl, dNe_bl, dEq_str, dChain, vadd_int, vadd_rol, vadd_tup, vmul_int, vsub_int, vlt_int, vle_int, vgt_int, vge_int, vmax_int, vmin_int, vneg_int, vlen_tup, vlen_rol, vtup_rol, vtup_tup, vlist_rol, vlist_tup, vix_tup, vix_rol, vat_0, vat_1, vat_2, vat_3, vat_4, vat_5, vat_6, vsl_tup, vsl_rol, visi_non_bool, visi_non_int, visi_non_str, visi_non_tuple, visi_non_list, visi_bl_bool, visi_bl_int, visi_bl_str, visi_bl_tuple, visi_bl_list, visi_int_bool, visi_int_int, visi_int_str, visi_int_tuple, visi_int_list, visi_str_bool, visi_str_int, visi_str_str, visi_str_tuple, visi_str_list, visi_tup_bool, visi_tup_int, visi_tup_str, visi_tup_tuple, visi_tup_list, visi_key_bool, visi_key_int, visi_key_str, visi_key_tuple, visi_key_list, visi_rol_bool, visi_rol_int, visi_rol_str, visi_rol_tuple, visi_rol_list, dBM, vtyL, vapp, vlen_upd, vix_upd, vsz_0, vsz_1, vsz_2, vsz_3, vsz_4, vsz_5, vsz_6, vsz_7, vsz_8, vsz_9, dIsN, dNotN, D.isN, List.getElem?_cons_zero, List.getElem?_cons_succ, List.set_cons_zero, List.set_cons_succ, List.length_cons, List.length_nil, decide_eq_true_eq, if_true, if_false, Bool.false_eq_true, ite_true, ite_false, true_and, and_true, Bool.not_true, Bool.not_false])
local macro_rules | `(tactic| walk_at "hd") => `(tactic| try simp only [sSeq, sIf, sAsg, sRet, sRetN, sDrop, sNext, gN, gT, gsCons, gsNil, gsNames, wipeD, D.tl, dTest, dAnd, dOr, dNot, dAndV, dOrV, dNotV, dIf, dOp, dUn, dVar, dC, dCons, dNil, dCB, dCall, dTup, dLst, dLstF, dYes, blD_bl, dEq_int, dNe_int, dEq_bl, dNe_bl, dEq_str, dChain, vadd_int, vadd_rol, vadd_tup, vmul_int, vsub_int, vlt_int, vle_int, vgt_int, vge_int, vmax_int, vmin_int, vneg_int, vlen_tup, vlen_rol, vtup_rol, vtup_tup, vlist_rol, vlist_tup, vix_tup, vix_rol, vat_0, vat_1, vat_2, vat_3, vat_4, vat_5, vat_6, vsl_tup, vsl_rol, visi_non_bool, visi_non_int, visi_non_str, visi_non_tuple, visi_non_list, visi_bl_bool, visi_bl_int, visi_bl_str, visi_bl_tuple, visi_bl_list, visi_int_bool, visi_int_int, visi_int_str, visi_int_tuple, visi_int_list, visi_str_bool, visi_str_int, visi_str_str, visi_str_tuple, visi_str_list, visi_tup_bool, visi_tup_int, visi_tup_str, visi_tup_tuple, visi_tup_list, visi_key_bool, visi_key_int, visi_key_str, visi_key_tuple, visi_key_list, visi_rol_bool, visi_rol_int, visi_rol_str, visi_rol_tuple, visi_rol_list, dBM, vtyL, vapp, vlen_upd, vix_upd, vsz_0, vsz_1, vsz_2, vsz_3, vsz_4, vsz_5, vsz_6, vsz_7, vsz_8, vsz_9, dIsN, dNotN, D.isN, List.getElem?_cons_zero, List.getElem?_cons_succ, List.set_cons_zero, List.set_cons_succ, List.length_cons, List.length_nil, decide_eq_true_eq, if_true, if_false, Bool.false_eq_true, ite_true, ite_false, true_and, and_true, Bool.not_true, Bool.not_false, dFld, sFldD, gF, dMeth, dMake, dTupP, dSl, oSome, oNo, updD_same, updD_updD, lk_stamp, lk_version, lk_over, lk_plan, lk_note, lk_ones, lk_guests, lk_says, lk_grow, lk_move, lk_move_one, lk_add, lk_drop, lk_hear, lk_rows, lk_told, lk_hands, lk_say_of, lk_parts, pf_stamp, pf_version, pf_over, pf_plan, pf_note, pf_ones, pf_ones0, pf_guests, pf_says, fs_len, lt8, vsl_plan, pf_plan2, vix_plan1, vix_plan3])
local macro_rules | `(tactic| walk_at "wd") => `(tactic| try simp only [sSeq, sIf, sAsg, sRet, sRetN, sDrop, sNext, gN, gT, gsCons, gsNil, gsNames, wipeD, D.tl, dTest, dAnd, dOr, dNot, dAndV, dOrV, dNotV, dIf, dOp, dUn, dVar, dC, dCons, dNil, dCB, dCall, dTup, dLst, dLstF, dYes, blD_bl, dEq_int, dNe_int, dEq_bl, dNe_bl, dEq_str, dChain, vadd_int, vadd_rol, vadd_tup, vmul_int, vsub_int, vlt_int, vle_int, vgt_int, vge_int, vmax_int, vmin_int, vneg_int, vlen_tup, vlen_rol, vtup_rol, vtup_tup, vlist_rol, vlist_tup, vix_tup, vix_rol, vat_0, vat_1, vat_2, vat_3, vat_4, vat_5, vat_6, vsl_tup, vsl_rol, visi_non_bool, visi_non_int, visi_non_str, visi_non_tuple, visi_non_list, visi_bl_bool, visi_bl_int, visi_bl_str, visi_bl_tuple, visi_bl_list, visi_int_bool, visi_int_int, visi_int_str, visi_int_tuple, visi_int_list, visi_str_bool, visi_str_int, visi_str_str, visi_str_tuple, visi_str_list, visi_tup_bool, visi_tup_int, visi_tup_str, visi_tup_tuple, visi_tup_list, visi_key_bool, visi_key_int, visi_key_str, visi_key_tuple, visi_key_list, visi_rol_bool, visi_rol_int, visi_rol_str, visi_rol_tuple, visi_rol_list, dBM, vtyL, vapp, vlen_upd, vix_upd, vsz_0, vsz_1, vsz_2, vsz_3, vsz_4, vsz_5, vsz_6, vsz_7, vsz_8, vsz_9, dIsN, dNotN, D.isN, List.getElem?_cons_zero, List.getElem?_cons_succ, List.set_cons_zero, List.set_cons_succ, List.length_cons, List.length_nil, decide_eq_true_eq, if_true, if_false, Bool.false_eq_true, ite_true, ite_false, true_and, and_true, Bool.not_true, Bool.not_false, dFld, sFldD, gF, dMeth, dMake, dTupP, dSl, oSome, oNo, updD_same, updD_updD, lk_stamp, lk_version, lk_over, lk_plan, lk_note, lk_ones, lk_guests, lk_says, lk_grow, lk_move, lk_move_one, lk_add, lk_drop, lk_hear, lk_rows, lk_told, lk_hands, lk_say_of, lk_parts, pf_stamp, pf_version, pf_over, pf_plan, pf_note, pf_ones, pf_ones0, pf_guests, pf_says, fs_len, lt8, vsl_plan, pf_plan2, vix_plan1, vix_plan3, veqE_rol, vneE_rol, gS])
def newM (p : Addr) (pl : Plan) (gs : List Int) : M := ⟨p, pl, sortI gs, 1, "", [], true⟩
theorem rel_new {h r hd kn p : Addr} {pl : Plan} {gs : List Int} (ok : pl.Ok) (nd : gs.Nodup) (h8 : ∀ g ∈ gs, 0 ≤ g ∧ g < 8) (h5 : ∀ g ∈ gs, g ≠ 5) : Rel (called h r hd kn pl gs) (newM p pl gs) := by
  have e : (first pl gs).hands = sortI gs := first_hands pl gs
  refine ⟨Rec.Inv.first ok nd h8, rfl, rfl, rfl, rfl, rfl, rfl, fun s hs => (by cases hs), rfl, ?_, fun k hk => ?_, fun g hg => h5 g ((sortI_perm gs).mem_iff.mp hg)⟩
  · show (((first pl gs).hands.map fun z => (z, (0 : Int))).map (·.1)).Nodup
    rw [List.map_map, show ((fun x : Int × Int => x.1) ∘ fun z : Int => (z, (0 : Int))) = id from rfl, List.map_id, e]
    exact (sortI_perm gs).nodup_iff.mpr nd
  · have hk : k ∈ ((first pl gs).hands.map fun z => (z, (0 : Int))).map (·.1) := hk
    rw [List.map_map, show ((fun x : Int × Int => x.1) ∘ fun z : Int => (z, (0 : Int))) = id from rfl, List.map_id, e] at hk
    exact h8 k ((sortI_perm gs).mem_iff.mp hk)
def Wd.more (w : Wd) (y : LH) (m : M) : Wd := { w with ys := w.ys ++ [y], ms := w.ms ++ [m] }
theorem more_of {ca : CA} {G : DH} {w : Wd} {y : LH} {m : M} {c : C} (hA : At ca G w) (len : w.ys.length = w.ms.length) (n1 : G y.r = none) (n2 : updD G y.r (.ins ca.Record y.rc.fs) y.hd = none) (n3 : updD (updD G y.r (.ins ca.Record y.rc.fs)) y.hd (.dK (kvI Say.d y.heard)) y.kn = none)
    (n4 : updD (updD (updD G y.r (.ins ca.Record y.rc.fs)) y.hd (.dK (kvI Say.d y.heard))) y.kn (.dK (kvI .int y.known)) y.h = none) (n5 : updD (putH ca G y) w.o (.lst ((w.ys.map fun y => .ref y.h) ++ [.ref y.h])) m.a = none) :
    At ca (updD (updD (updD (updD (putH ca G y) w.o (.lst ((w.ys.map fun y => .ref y.h) ++ [.ref y.h]))) m.a c) w.lo (.lst ((w.ms.map fun m => .ref m.a) ++ [.ref m.a]))) m.a (.dK (m.kvs w.ms.length))) (w.more y m) := by
  obtain ⟨l, d, h⟩ := hA
  have h1 := h.new' n1 (.recd w.ms.length) (.ins ca.Record y.rc.fs)
  have h2 := h1.new' n2 (.heard w.ms.length) (.dK (kvI Say.d y.heard))
  have h3 := h2.new' n3 (.known w.ms.length) (.dK (kvI .int y.known))
  have h4 := h3.new' n4 (.hosted w.ms.length) (.ins ca.Hosted y.fs)
  have h5 := h4.upd' (t := .own) (a := w.o) (c := .lst (w.ys.map fun y => .ref y.h)) (by simp [setc, cells]) (.lst ((w.ys.map fun y => .ref y.h) ++ [.ref y.h]))
  have h6 := h5.new' n5 (.m w.ms.length) c
  have h7 := h6.upd' (t := .low) (a := w.lo) (c := .lst (w.ms.map fun m => .ref m.a)) (by simp [setc, cells]) (.lst ((w.ms.map fun m => .ref m.a) ++ [.ref m.a]))
  have h8 := h7.upd' (t := .m w.ms.length) (a := m.a) (c := c) (by simp [setc]) (.dK (m.kvs w.ms.length))
  refine ⟨l, d, h8.cong fun s => ?_⟩
  cases s with
  | hosted i =>
    simp only [cells, Wd.more, setc, snoc_get, len, Tg.hosted.injEq, reduceCtorEq, if_false]
    split
    · rfl
    · rfl
  | recd i =>
    simp only [cells, Wd.more, setc, snoc_get, len, Tg.recd.injEq, reduceCtorEq, if_false]
    split
    · rfl
    · rfl
  | heard i =>
    simp only [cells, Wd.more, setc, snoc_get, len, Tg.heard.injEq, reduceCtorEq, if_false]
    split
    · rfl
    · rfl
  | known i =>
    simp only [cells, Wd.more, setc, snoc_get, len, Tg.known.injEq, reduceCtorEq, if_false]
    split
    · rfl
    · rfl
  | m i =>
    simp only [cells, Wd.more, setc, snoc_get, Tg.m.injEq, reduceCtorEq, if_false]
    split
    · rename_i e
      rw [e]; rfl
    · rfl
  | own => simp [cells, Wd.more, setc]
  | low => simp [cells, Wd.more, setc]
  | draws => simp [cells, Wd.more, setc]
  | hand => simp [cells, Wd.more, setc, Wd.hand, LHand.fs]
  | calls => simp [cells, Wd.more, setc]
theorem gd_more {w : Wd} {n : Nat} {y : LH} {m : M} (hg : Gd w n) (few : w.ms.length < 20) (r : Rel y m) (hc : m.chs = []) : Gd (w.more y m) (n + 1) := by
  have len := hg.len
  refine ⟨by simp [Wd.more, len], by simp [Wd.more]; omega, fun j y' m' h1 h2 => ?_, fun m' hm => ?_⟩
  · simp only [Wd.more, snoc_get, len] at h1 h2
    split at h1
    · rename_i e
      rw [if_pos e] at h2
      cases h1; cases h2; exact r
    · rename_i e
      rw [if_neg e] at h2
      exact hg.rel j y' m' h1 h2
  · rcases List.mem_append.mp hm with hm | hm
    · exact Nat.le_succ_of_le (hg.chs m' hm)
    · rw [List.mem_singleton.mp hm, hc]; exact Nat.zero_le _
theorem call_ok {ca : CA} {G : DH} {w : Wd} {n : Nat} {Dn : DEnds} {x0 x4 x5 x6 x7 o8 o9 o10 o11 o12 o13 o14 o15 : Option D} (hA : At ca G w) (hg : Gd w n) (few : w.ms.length < 20)
    (q : ∀ w' G' o9 o10 o11 o12, w'.d = w.d → w'.a = w.a → w'.lo = w.lo → At ca G' w' → Gd w' (n + 1) → Dn.nx [x0, some (.ref w.d), some (.ref w.a), some (.ref w.lo), x4, x5, x6, x7, o8, o9, o10, o11, o12, o13, o14, o15] G') :
    callS ca Dn [x0, some (.ref w.d), some (.ref w.a), some (.ref w.lo), x4, x5, x6, x7, o8, o9, o10, o11, o12, o13, o14, o15] G := by
  unfold callS
  walk_at "wd"
  refine plan_W hA fun p G1 pok hA => ?_
  walk_at "wd"
  refine mixed_W (ns := [0, 1, 2, 3, 4, 6, 7]) hA rfl (by decide) fun ms G2 hp hA => ?_
  refine off_W hA (by decide) (by decide) fun r G3 r0 r1 hA => ?_
  obtain ⟨i, rfl⟩ := Int.eq_ofNat_of_zero_le r0
  have hml : ms.length = 7 := hp.length_eq
  walk_at "wd"
  rw [vcut_to (by rw [List.length_map, hml]; omega), ← List.map_take]
  walk_at "wd"
  have ha : G3 w.a = some (.ins ca.Hand w.hand.fs) := (base_of hA).a
  simp only [ha, la_call, true_and]
  have hsub : ∀ g ∈ ms.take i, g ∈ ([0, 1, 2, 3, 4, 6, 7] : List Int) := fun g hg => hp.mem_iff.mp (List.mem_of_mem_take hg)
  have hnd : (ms.take i).Nodup := (hp.nodup_iff.mpr (by decide)).sublist (List.take_sublist _ _)
  have h8 : ∀ g ∈ ms.take i, 0 ≤ g ∧ g < 8 ∧ g ≠ 5 := fun g hg => by
    have := hsub g hg
    simp only [List.mem_cons, List.not_mem_nil, or_false] at this
    omega
  have len := hg.len
  refine ⟨w.hand, p, ms.take i, rfl, base_of hA, pok, hnd, by rw [List.length_take]; omega, fun g hg => by have := h8 g hg; exact ⟨this.1, by omega, this.2.2⟩, by show w.ys.length ≤ _; omega, fun h r hd kn nh nr nhd nkn e1 e2 e3 e4 e5 e6 => ?_⟩
  have hlo : G3 w.lo = some (.lst (w.ms.map fun m => .ref m.a)) := low_of hA
  have hoo : G3 w.o = some (.lst (w.ys.map fun y => .ref y.h)) := (base_of hA).o
  have hlo2 : w.lo ≠ w.o := by
    obtain ⟨l, _, h⟩ := hA
    exact h.ap (t := .low) (t' := .own) rfl rfl (by simp)
  have hlo4 : updD (putH ca G3 (called h r hd kn p (ms.take i))) w.o (.lst ((w.ys.map fun y => .ref y.h) ++ [.ref h])) w.lo = some (.lst (w.ms.map fun m => .ref m.a)) := by
    rw [updD_ne hlo2]
    unfold putH called
    dsimp only
    rw [updD_ne (neD hlo nh), updD_ne (neD hlo nkn), updD_ne (neD hlo nhd), updD_ne (neD hlo nr)]
    exact hlo
  walk_at "wd"
  refine vlen_at hlo4 ?_
  refine ⟨_, _, .int w.ms.length, rfl, ?_, by rw [List.length_map]; exact .int _, by simp [PyData.depth], rfl, ?_⟩
  · show Rdd _ (.int (w.ys.length : Nat)) _
    rw [len]; exact .int _
  walk_at "wd"
  refine ⟨ty_lst hlo4, ?_⟩
  intro q0 nq
  simp only [dPs]
  walk_at "wd"
  refine sort_intsR (by rw [List.length_take]; omega) ?_
  walk_at "wd"
  refine ⟨by show 5 ≤ 15; decide, ?_⟩
  have nlq := neD hlo4 nq
  refine app_at (l := w.ms.map fun m => .ref m.a) (by rw [updD_ne nlq]; exact hlo4) (by rw [List.length_map, sizeLine_eq]; omega) ?_
  walk_at "wd"
  rw [atI_last]
  dsimp only
  have hq5 := (updD_ne (G := updD (updD (putH ca G3 (called h r hd kn p (ms.take i))) w.o (.lst ((w.ys.map fun y => .ref y.h) ++ [.ref h]))) q0
    (.dK (mergeD [] [(Sum.inr "number", .int (w.ys.length : Nat)), (Sum.inr "plan", p.d), (Sum.inr "guests", .rol ((sortI (ms.take i)).map .int)), (Sum.inr "version", .int 1), (Sum.inr "note", .str "")])))
    (c := .lst ((w.ms.map fun m => .ref m.a) ++ [.ref q0])) (Ne.symm nlq)).trans updD_same
  refine ⟨ty_dK hq5, ?_⟩
  refine ⟨_, _, [(Sum.inr "changes", .rol []), (Sum.inr "is", .bl true)], hq5, ⟨_, rfl, rfl⟩, rfl, by rw [sizeLine_eq]; show 5 + 2 ≤ 16777216; decide, ?_⟩
  have hfin := more_of (y := called h r hd kn p (ms.take i)) (m := newM q0 p (ms.take i)) (c := .dK (mergeD [] [(Sum.inr "number", .int (w.ys.length : Nat)), (Sum.inr "plan", p.d), (Sum.inr "guests", .rol ((sortI (ms.take i)).map .int)), (Sum.inr "version", .int 1), (Sum.inr "note", .str "")])) hA len
    nr (by show updD _ r _ hd = none; rw [updD_ne (Ne.symm e4)]; exact nhd) (by show updD (updD _ r _) hd _ kn = none; rw [updD_ne (Ne.symm e6), updD_ne (Ne.symm e5)]; exact nkn) (by show updD (updD (updD _ r _) hd _) kn _ h = none; rw [updD_ne e3, updD_ne e2, updD_ne e1]; exact nh) nq
  have ek : mergeD (mergeD [] [(Sum.inr "number", .int (w.ys.length : Nat)), (Sum.inr "plan", p.d), (Sum.inr "guests", .rol ((sortI (ms.take i)).map .int)), (Sum.inr "version", .int 1), (Sum.inr "note", .str "")]) [(Sum.inr "changes", .rol []), (Sum.inr "is", .bl true)] = (newM q0 p (ms.take i)).kvs w.ms.length := by
    rw [len]; rfl
  rw [ek]
  exact q (w.more (called h r hd kn p (ms.take i)) (newM q0 p (ms.take i))) _ _ _ _ _ rfl rfl rfl hfin (gd_more hg few (rel_new pok hnd (fun g hg => by have := h8 g hg; omega) fun g hg => (h8 g hg).2.2) rfl)
end K03
/-! ### k03: the law -/
namespace K03
open PySem PySem.Spec PyProof.Rows L2 Cc Pl Hd Lw
open PySem.W (EachIs AllAlike Sortable dataLe)
open K02 (Ch chD after some_ dueRow due_rows)
local macro_rules | `(tactic| walk_at "rd") => `(tactic| try simp only [sSeq, sIf, sAsg, sRet, sRetN, sDrop, sNext, gN, gT, gsCons, gsNil, gsNames, wipeD, D.tl, dTest, dAnd, dOr, dNot, dAndV, dOrV, dNotV, dIf, dOp, dUn, dVar, dC, dCons, dNil, dCB, dCall, dTup, dLst, dLstF, dYes, blD_bl, dEq_int, dNe_int, dEq_bl, dNe_bl, dEq_str, dChain, vadd_int, vadd_rol, vadd_tup, vmul_int, vsub_int, vlt_int, vle_int, vgt_int, vge_int, vmax_int, vmin_int, vneg_int, vlen_tup, vlen_rol, vtup_rol, vtup_tup, vlist_rol, vlist_tup, vix_tup, vix_rol, vat_0, vat_1, vat_2, vat_3, vat_4, vat_5, vat_6, vsl_tup, vsl_rol, visi_non_bool, visi_non_int, visi_non_str, visi_non_tuple, visi_non_list, visi_bl_bool, visi_bl_int, visi_bl_str, visi_bl_tuple, visi_bl_list, visi_int_bool, visi_int_int, visi_int_str, visi_int_tuple, visi_int_list, visi_str_bool, visi_str_int, visi_str_str, visi_str_tuple, visi_str_list, visi_tup_bool, visi_tup_int, visi_tup_str, visi_tup_tuple, visi_tup_list, visi_key_bool, visi_key_int, visi_key_str, visi_key_tuple, visi_key_list, visi_rol_bool, visi_rol_int, visi_rol_str, visi_rol_tuple, visi_rol_list, dBM, vtyL, vapp, vlen_upd, vix_upd, vsz_0, vsz_1, vsz_2, vsz_3, vsz_4, vsz_5, vsz_6, vsz_7, vsz_8, vsz_9, dIsN, dNotN, D.isN, List.getElem?_cons_zero, List.getElem?_cons_succ, List.set_cons_zero, List.set_cons_succ, List.length_cons, List.length_nil, decide_eq_true_eq, if_true, if_false, Bool.false_eq_true, ite_true, ite_false, true_and, and_true, Bool.not_true, Bool.not_false])
local macro_rules | `(tactic| walk_at "hd") => `(tactic| try simp only [sSeq, sIf, sAsg, sRet, sRetN, sDrop, sNext, gN, gT, gsCons, gsNil, gsNames, wipeD, D.tl, dTest, dAnd, dOr, dNot, dAndV, dOrV, dNotV, dIf, dOp, dUn, dVar, dC, dCons, dNil, dCB, dCall, dTup, dLst, dLstF, dYes, blD_bl, dEq_int, dNe_int, dEq_bl, dNe_bl, dEq_str, dChain, vadd_int, vadd_rol, vadd_tup, vmul_int, vsub_int, vlt_int, vle_int, vgt_int, vge_int, vmax_int, vmin_int, vneg_int, vlen_tup, vlen_rol, vtup_rol, vtup_tup, vlist_rol, vlist_tup, vix_tup, vix_rol, vat_0, vat_1, vat_2, vat_3, vat_4, vat_5, vat_6, vsl_tup, vsl_rol, visi_non_bool, visi_non_int, visi_non_str, visi_non_tuple, visi_non_list, visi_bl_bool, visi_bl_int, visi_bl_str, visi_bl_tuple, visi_bl_list, visi_int_bool, visi_int_int, visi_int_str, visi_int_tuple, visi_int_list, visi_str_bool, visi_str_int, visi_str_str, visi_str_tuple, visi_str_list, visi_tup_bool, visi_tup_int, visi_tup_str, visi_tup_tuple, visi_tup_list, visi_key_bool, visi_key_int, visi_key_str, visi_key_tuple, visi_key_list, visi_rol_bool, visi_rol_int, visi_rol_str, visi_rol_tuple, visi_rol_list, dBM, vtyL, vapp, vlen_upd, vix_upd, vsz_0, vsz_1, vsz_2, vsz_3, vsz_4, vsz_5, vsz_6, vsz_7, vsz_8, vsz_9, dIsN, dNotN, D.isN, List.getElem?_cons_zero, List.getElem?_cons_succ, List.set_cons_zero, List.set_cons_succ, List.length_cons, List.length_nil, decide_eq_true_eq, if_true, if_false, Bool.false_eq_true, ite_true, ite_false, true_and, and_true, Bool.not_true, Bool.not_false, dFld, sFldD, gF, dMeth, dMake, dTupP, dSl, oSome, oNo, updD_same, updD_updD, lk_stamp, lk_version, lk_over, lk_plan, lk_note, lk_ones, lk_guests, lk_says, lk_grow, lk_move, lk_move_one, lk_add, lk_drop, lk_hear, lk_rows, lk_told, lk_hands, lk_say_of, lk_parts, pf_stamp, pf_version, pf_over, pf_plan, pf_note, pf_ones, pf_ones0, pf_guests, pf_says, fs_len, lt8, vsl_plan, pf_plan2, vix_plan1, vix_plan3])
local macro_rules | `(tactic| walk_at "wd") => `(tactic| try simp only [sSeq, sIf, sAsg, sRet, sRetN, sDrop, sNext, gN, gT, gsCons, gsNil, gsNames, wipeD, D.tl, dTest, dAnd, dOr, dNot, dAndV, dOrV, dNotV, dIf, dOp, dUn, dVar, dC, dCons, dNil, dCB, dCall, dTup, dLst, dLstF, dYes, blD_bl, dEq_int, dNe_int, dEq_bl, dNe_bl, dEq_str, dChain, vadd_int, vadd_rol, vadd_tup, vmul_int, vsub_int, vlt_int, vle_int, vgt_int, vge_int, vmax_int, vmin_int, vneg_int, vlen_tup, vlen_rol, vtup_rol, vtup_tup, vlist_rol, vlist_tup, vix_tup, vix_rol, vat_0, vat_1, vat_2, vat_3, vat_4, vat_5, vat_6, vsl_tup, vsl_rol, visi_non_bool, visi_non_int, visi_non_str, visi_non_tuple, visi_non_list, visi_bl_bool, visi_bl_int, visi_bl_str, visi_bl_tuple, visi_bl_list, visi_int_bool, visi_int_int, visi_int_str, visi_int_tuple, visi_int_list, visi_str_bool, visi_str_int, visi_str_str, visi_str_tuple, visi_str_list, visi_tup_bool, visi_tup_int, visi_tup_str, visi_tup_tuple, visi_tup_list, visi_key_bool, visi_key_int, visi_key_str, visi_key_tuple, visi_key_list, visi_rol_bool, visi_rol_int, visi_rol_str, visi_rol_tuple, visi_rol_list, dBM, vtyL, vapp, vlen_upd, vix_upd, vsz_0, vsz_1, vsz_2, vsz_3, vsz_4, vsz_5, vsz_6, vsz_7, vsz_8, vsz_9, dIsN, dNotN, D.isN, List.getElem?_cons_zero, List.getElem?_cons_succ, List.set_cons_zero, List.set_cons_succ, List.length_cons, List.length_nil, decide_eq_true_eq, if_true, if_false, Bool.false_eq_true, ite_true, ite_false, true_and, and_true, Bool.not_true, Bool.not_false, dFld, sFldD, gF, dMeth, dMake, dTupP, dSl, oSome, oNo, updD_same, updD_updD, lk_stamp, lk_version, lk_over, lk_plan, lk_note, lk_ones, lk_guests, lk_says, lk_grow, lk_move, lk_move_one, lk_add, lk_drop, lk_hear, lk_rows, lk_told, lk_hands, lk_say_of, lk_parts, pf_stamp, pf_version, pf_over, pf_plan, pf_note, pf_ones, pf_ones0, pf_guests, pf_says, fs_len, lt8, vsl_plan, pf_plan2, vix_plan1, vix_plan3, veqE_rol, vneE_rol, gS])
theorem turn_ok {ca : CA} {G : DH} {w : Wd} {most often : Int} {Dn : DEnds} {x0 o6 o7 o8 o9 o10 o11 o12 o13 o14 o15 : Option D} (hA : At ca G w) (hg : Gd w 0) (hm : most = 5 ∨ most = 20) (ho : 0 < often ∧ often < 100)
    (q : ∀ δ G', Dn.nx δ G') :
    turnS ca Dn [x0, some (.ref w.d), some (.ref w.a), some (.ref w.lo), some (.int most), some (.int often), o6, o7, o8, o9, o10, o11, o12, o13, o14, o15] G := by
  unfold turnS sFor iRange1
  walk_at "wd"
  refine ⟨by unfold CMul; omega, ?_⟩
  refine off_W hA (by omega) (by omega) fun r G1 r0 r1 hA => ?_
  dsimp only
  refine ⟨⟨by omega, by omega⟩, ?_⟩
  obtain ⟨i, rfl⟩ := Int.eq_ofNat_of_zero_le r0
  rw [Int.toNat_natCast, rangeD_map]
  have hi : i ≤ 160 := by omega
  refine goFor_map (f := fun i : Nat => D.int (i : Int)) (fun xs δ G' => ∃ (w' : Wd) (n : Nat), (∃ o6 o7 o8 o9 o10 o11 o12 o13 o14 o15, δ = [x0, some (.ref w'.d), some (.ref w'.a), some (.ref w'.lo), some (.int most), some (.int often), o6, o7, o8, o9, o10, o11, o12, o13, o14, o15]) ∧ At ca G' w' ∧ Gd w' n ∧ n + xs.length ≤ 160)
    (fun _ _ _ _ => trivial) (fun δ G' _ => q _ _) (fun x xs δ G' N ⟨w, n, ⟨o6, o7, o8, o9, o10, o11, o12, o13, o14, o15, e⟩, hA, hg, hn⟩ hN => ?_) _ _ _ ⟨w, 0, ⟨_, _, _, _, _, _, _, _, _, _, rfl⟩, hA, hg, by rw [List.length_range]; omega⟩
  subst e
  rw [List.length_cons] at hn
  walk_at "wd"
  refine there_ok hA hg fun th ht hl => ?_
  have fin : ∀ (w' : Wd) G' o7 o8 o9 o10 o11 o12 o13 o14 o15 (Dn2 : DEnds), Dn2.nx = N → w'.d = w.d → w'.a = w.a → w'.lo = w.lo → At ca G' w' → Gd w' (n + 1) → bookS ca Dn2 [x0, some (.ref w.d), some (.ref w.a), some (.ref w.lo), some (.int most), some (.int often), some (.int x), o7, o8, o9, o10, o11, o12, o13, o14, o15] G' := fun w' G' o7 o8 o9 o10 o11 o12 o13 o14 o15 Dn2 eN e1 e2 e3 hA' hg' => by
    rw [← e1, ← e2, ← e3]
    refine book_ok hA' hg' (by omega) fun G2 o13 o14 o15 hA2 => ?_
    rw [eN]
    exact hN _ _ ⟨w', n + 1, ⟨_, _, _, _, _, _, _, _, _, _, rfl⟩, hA2, hg', by omega⟩
  walk_at "wd"
  refine vlen_at (low_of hA) ?_
  walk_at "wd"
  rw [List.length_map]
  have deed : ∀ (G2 : DH), At ca G2 w → deedS ca ⟨bookS ca ⟨N, Dn.rt, Dn.nx, N, Dn.ex⟩, Dn.rt, Dn.nx, N, Dn.ex⟩ [x0, some (.ref w.d), some (.ref w.a), some (.ref w.lo), some (.int most), some (.int often), some (.int x), some (.rol th), o8, o9, o10, o11, o12, o13, o14, o15] G2 := fun G2 hA2 =>
    deed_ok hA2 hg (by omega) ht hl fun w' G' o8 e1 e2 e3 hA' hg' => fin w' G' _ _ _ _ _ _ _ _ _ _ rfl e1 e2 e3 hA' hg'
  have call : ∀ (G2 : DH), At ca G2 w → w.ms.length < 20 → callS ca ⟨bookS ca ⟨N, Dn.rt, Dn.nx, N, Dn.ex⟩, Dn.rt, Dn.nx, N, Dn.ex⟩ [x0, some (.ref w.d), some (.ref w.a), some (.ref w.lo), some (.int most), some (.int often), some (.int x), some (.rol th), o8, o9, o10, o11, o12, o13, o14, o15] G2 := fun G2 hA2 few =>
    call_ok hA2 hg few fun w' G' o9 o10 o11 o12 e1 e2 e3 hA' hg' => fin w' G' _ _ _ _ _ _ _ _ _ _ rfl e1 e2 e3 hA' hg'
  by_cases hlt : (w.ms.length : Int) < most
  · rw [if_pos hlt]
    have few : w.ms.length < 20 := by omega
    walk_at "wd"
    cases th with
    | nil =>
      simp only [List.isEmpty_nil, if_true]
      exact call _ hA few
    | cons d0 th =>
      simp only [List.isEmpty_cons, Bool.false_eq_true, if_false]
      refine off_W hA ho.1 (by omega) fun r G2 r0 r1 hA => ?_
      walk_at "wd"
      by_cases hr : r = 0
      · rw [if_pos hr]
        exact call _ hA few
      · rw [if_neg hr]
        exact deed _ hA
  · rw [if_neg hlt]
    exact deed _ hA
theorem start_of {G : DH} {ca : CA} {d a o c lo : Addr} {l : List D} {c0 : C} (dl : Draws l) (n1 : G d = none) (n2 : updD G d (.lst l) a = none) (n3 : updD (updD G d (.lst l)) a c0 o = none) (n4 : updD (updD G d (.lst l)) a c0 c = none) (noc : o ≠ c)
    (n5 : updD (updD (updD (updD (updD G d (.lst l)) a c0) o (.lst [])) c (.dT [])) a (.ins ca.Hand (Wd.hand ⟨d, a, o, c, lo, [], []⟩).fs) lo = none) :
    At ca (updD (updD (updD (updD (updD (updD G d (.lst l)) a c0) o (.lst [])) c (.dT [])) a (.ins ca.Hand (Wd.hand ⟨d, a, o, c, lo, [], []⟩).fs)) lo (.lst [])) ⟨d, a, o, c, lo, [], []⟩ := by
  have h0 : AtF G (fun _ : Tg => none) := ⟨fun t a c e => (by cases e), fun t t' a c c' e => (by cases e)⟩
  have h1 := h0.new' n1 .draws (.lst l)
  have h2 := h1.new' n2 .hand c0
  have h3 := h2.new' n3 .own (.lst [])
  have h4 := h3.new' (a := c) (by rw [updD_ne (Ne.symm noc)]; exact n4) .calls (.dT [])
  have h5 := h4.upd' (t := .hand) (a := a) (c := c0) (by simp [setc]) (.ins ca.Hand (Wd.hand ⟨d, a, o, c, lo, [], []⟩).fs)
  have h6 := h5.new' n5 .low (.lst [])
  refine ⟨l, dl, h6.cong fun s => ?_⟩
  cases s <;> simp [setc, cells]
theorem pure_law (ca : CA) (ds : List D) (G : DH) (R : DK) (EX : DX) (h : sdLaw ds G R EX) : b_law ca (endsD (frg R) EX) (startD N_law ds) G := by
  obtain ⟨x, ns, rfl, hx, hn, q⟩ := h
  show b_law ca (endsD (frg R) EX) [some x, none, none, none, none, none, none, none, none, none, none, none, none, none, none, none] G
  unfold b_law
  walk_at "wd"
  refine ⟨x, 0, ns, rfl, hx, by omega, fun d l hd dl => ?_⟩
  walk_at "wd"
  intro a ha
  refine ⟨a, 5, rfl, by decide, by decide, updD_same, fun o c ho hc noc => ?_⟩
  walk_at "wd"
  intro lo hlo
  have hao : a ≠ o := fun z => by subst z; rw [updD_same] at ho; cases ho
  have hac : a ≠ c := fun z => by subst z; rw [updD_same] at hc; cases hc
  have hA := start_of (ca := ca) (lo := lo) dl hd ha ho hc noc hlo
  walk_at "wd"
  refine off_W hA (by decide) (by decide) fun r G1 r0 r1 hA => ?_
  refine menuD r0 r1 fun y hy => ?_
  have g0 : Gd (⟨d, a, o, c, lo, [], []⟩ : Wd) 0 := ⟨rfl, Nat.zero_le _, fun j y m h => by simp at h, fun m hm => by cases hm⟩
  simp only [List.mem_cons, List.not_mem_nil, or_false] at hy
  rcases hy with rfl | rfl | rfl
  · walk_at "wd"
    exact turn_ok hA g0 (.inl rfl) (by omega) fun δ G' => by walk_at "wd"; exact frg_of (q _)
  · walk_at "wd"
    exact turn_ok hA g0 (.inl rfl) (by omega) fun δ G' => by walk_at "wd"; exact frg_of (q _)
  · walk_at "wd"
    exact turn_ok hA g0 (.inr rfl) (by omega) fun δ G' => by walk_at "wd"; exact frg_of (q _)
end K03
/-! ### k03: the defs keep their readings -/
namespace K03
open PySem PySem.Spec PyProof.Rows L2 Cc Pl Hd
structure Txt (K : PySem.W.Frag) (mg : Str → Option Value) where
  a_CallError : Addr
  a_BadHand : Addr
  a_BadPlan : Addr
  a_BadWord : Addr
  a_Hand : Addr
  a_Hosted : Addr
  a_NoMeeting : Addr
  a_Record : Addr
  cl_Hand : Cls K a_Hand
  cl_Hosted : Cls K a_Hosted
  cl_Record : Cls K a_Record
  n_Hand_calls : NoAttr K a_Hand "calls"
  n_Hand_me : NoAttr K a_Hand "me"
  n_Hand_own : NoAttr K a_Hand "own"
  n_Hosted_heard : NoAttr K a_Hosted "heard"
  n_Hosted_known : NoAttr K a_Hosted "known"
  n_Hosted_record : NoAttr K a_Hosted "record"
  n_Record_guests : NoAttr K a_Record "guests"
  n_Record_note : NoAttr K a_Record "note"
  n_Record_ones : NoAttr K a_Record "ones"
  n_Record_over : NoAttr K a_Record "over"
  n_Record_plan : NoAttr K a_Record "plan"
  n_Record_record : NoAttr K a_Record "record"
  n_Record_say : NoAttr K a_Record "say"
  n_Record_says : NoAttr K a_Record "says"
  n_Record_stamp : NoAttr K a_Record "stamp"
  n_Record_version : NoAttr K a_Record "version"
  e_BadHand : ErrC K mg "BadHand" a_BadHand
  e_BadPlan : ErrC K mg "BadPlan" a_BadPlan
  e_BadWord : ErrC K mg "BadWord" a_BadWord
  e_NoMeeting : ErrC K mg "NoMeeting" a_NoMeeting
  c_ASKED : GloC K mg "ASKED" (.str "asked")
  c_HANDS : GloC K mg "HANDS" (.int 8)
  c_LETTERS : GloC K mg "LETTERS" (.str "abcdefghijklmnopqrstuvwxyz")
  c_MOST_BEGIN : GloC K mg "MOST_BEGIN" (.int 999)
  c_MOST_EVERY : GloC K mg "MOST_EVERY" (.int 100)
  c_MOST_GUESTS : GloC K mg "MOST_GUESTS" (.int 6)
  c_MOST_LONG : GloC K mg "MOST_LONG" (.int 50)
  c_MOST_MANY : GloC K mg "MOST_MANY" (.int 12)
  c_MOST_NAME : GloC K mg "MOST_NAME" (.int 10)
  c_NOTHING : GloC K mg "NOTHING" (.tup [(.int 0), .non, (.tup []), .non])
  c_PASSED : GloC K mg "PASSED" (.str "passed")
  f_abs : mg "abs" = none
  f_all : mg "all" = none
  f_bool : mg "bool" = none
  f_dict : mg "dict" = none
  f_enumerate : mg "enumerate" = none
  f_int : mg "int" = none
  f_isinstance : mg "isinstance" = none
  f_len : mg "len" = none
  f_list : mg "list" = none
  f_range : mg "range" = none
  f_set : mg "set" = none
  f_sorted : mg "sorted" = none
  f_str : mg "str" = none
  f_tuple : mg "tuple" = none
  rb_E : mg "CallError" = some (.ref a_CallError)
  rb_H : GloC K mg "BadHand" (.ref a_BadHand)
  xb_hand : ExcC K a_BadHand
  kb_hand : PySem.W.kitOne K (.ref a_BadHand) (.ref a_BadHand) = some true
  mb_hand : PySem.W.exmOne K (.ref a_BadHand) (.ref a_CallError) = some true

theorem bad_hand {X : Cx} {T : List (Addr × Str)} (Tx : Txt X.K X.mg) {g : Addr} {cdg : Value} {k : Nat} {q : Str} : Given X N_bad ["_law_work"] "_law_is_bad" "_law_work" (defScope s_bad) g cdg (defBody s_bad) k q (spBad (X.K, T) Tx.a_BadHand) := given_bad ⟨Tx.a_CallError, Tx.a_BadHand, Tx.rb_E, Tx.rb_H, Tx.f_isinstance⟩ Tx.xb_hand Tx.kb_hand Tx.mb_hand
abbrev Txt.ca {K : PySem.W.Frag} {mg : Str → Option Value} (Tx : Txt K mg) : CA := ⟨Tx.a_Record, Tx.a_Hosted, 0, Tx.a_Hand, Tx.a_BadHand, Tx.a_BadPlan, Tx.a_BadWord, Tx.a_NoMeeting, 0⟩
abbrev s_change_of : Stmt := top 19
theorem sc_change_of : FnScope N_change_of ["ones", "k"] (defScope s_change_of) := ⟨rfl, rfl, rfl, by decide +kernel, rfl, by decide +kernel, by decide +kernel⟩
theorem bd_change_of {P : Program} {w : World} {K : PySem.W.Frag} {TT : List (Addr × Str)} {cv : Value → Prop} {mg : Str → Option Value} {base : Heap} (Tx : Txt K mg) : BodyD P w K TT cv mg base N_change_of "change_of" (defScope s_change_of) (defBody s_change_of) 0 b_change_of := by
  intro f cdv A outer s H E hcv hr
  have nd : (N_change_of).Nodup := sc_change_of.nd
  exact (pdss_cons (pds_for poD rfl (pdi_seq (pd_var 0 (pv 0))) (pdg_tup rfl (pdgs_cons (pdg_name (i := 2) nd rfl (by first | exact Or.inl rfl | exact Or.inr rfl)) (pdgs_cons (pdg_name (i := 3) nd rfl (by first | exact Or.inl rfl | exact Or.inr rfl)) (pdgs_cons (pdg_name (i := 4) nd rfl (by first | exact Or.inl rfl | exact Or.inr rfl)) pdgs_nil)))) (pdss_one (pds_if (pdt_cp (od_eq hr.units) (pd_var 2 (pv 2)) (pd_var 1 (pv 1))) (pdss_one (pds_ret (pd_tup (pda_cons (pd_var 3 (pv 3)) (pda_cons (pd_var 4 (pv 4)) pda_nil))))) pdss_nil)))
  (pdss_one (pds_ret (pd_tup (pda_cons pd_int (pda_cons pd_non pda_nil))))))
abbrev s_changed : Stmt := top 20
theorem sc_changed : FnScope N_changed ["ones", "k", "begin"] (defScope s_changed) := ⟨rfl, rfl, rfl, by decide +kernel, rfl, by decide +kernel, by decide +kernel⟩
theorem bd_changed {P : Program} {w : World} {K : PySem.W.Frag} {TT : List (Addr × Str)} {mg : Str → Option Value} {base : Heap} (Tx : Txt K mg) (F_change_of : Fn P w (K, TT) mg base "change_of" 1 ["ones", "k"] Pl.sd_change_of) {c PA : Addr} (TB : LamX.TabB base mg c PA) (hmT : (PA, ("changed" : Str) ++ ".<locals>." ++ "<lambda>") ∈ TT) (huT : ∀ q ∈ TT, q.1 = PA → q.2 = ("changed" : Str) ++ ".<locals>." ++ "<lambda>") : BodyD P w K TT (fun v => v = .ref c) mg base N_changed "changed" (defScope s_changed) (defBody s_changed) 2 b_changed := by
  intro f cdv A outer s H E hcv hr
  have nd : (N_changed).Nodup := sc_changed.nd
  have hcode : cdv = .ref c := hcv
  subst hcode
  exact (pdss_cons (pds_asg (pd_bin od_addF (pd_sub (ixd (hu_of hr)) (pd_fn F_change_of hr psD (pda_cons (pd_var 0 (pv 0)) (pda_cons (pd_var 1 (pv 1)) pda_nil))) pd_int) pd_int) (pdg_name (i := 3) nd rfl (by first | exact Or.inl rfl | exact Or.inr rfl)))
  (pdss_cons (pds_setLcF (i := 4) (own := [("row", 5)]) rfl nd rfl rfl (sw_true rfl rfl rfl (by decide +kernel)) (pdi_seq (pd_var 0 (pv 0))) (blkOk_by (own := [("row", 5)]) (N := N_changed) (sc := defScope s_changed) (by decide +kernel)) (blk_name (i := 5) (by decide) (fun _ _ _ _ _ => pg_name (i := 5) nd rfl (by first | exact Or.inl rfl | exact Or.inr rfl)) (fun _ _ _ _ _ => (pdts_one (pdt_cp (od_ne hr.units) (pd_sub (ixd (hu_of hr)) (pd_var 5 (pv 5)) pd_int) (pd_var 1 (pv 1))))) (fun _ _ _ _ _ => (pd_var 5 (pv 5)))))
  (pdss_one (pds_ret (pd_btt cd_tup Tx.f_tuple (by decide +kernel) (pda_cons (pd_sortGF (j := 0) (x := "row") (keyIx (i := 0)) encI_alike encI_sort encI_depth kI_tl TB rfl hmT huT (lam1_by (by decide +kernel)) rfl (fun _ _ _ _ => rfl) (hr.mono (by decide)) Tx.f_sorted (pd_bin od_addF (pd_var 4 (pv 4)) (pd_lstF (pda_cons (pd_tup (pda_cons (pd_var 1 (pv 1)) (pda_cons (pd_var 3 (pv 3)) (pda_cons (pd_var 2 (pv 2)) pda_nil)))) pda_nil)))) pda_nil))))))
abbrev s_word_of : Stmt := top 29
theorem sc_word_of : FnScope N_word_of ["say", "version", "ones", "k"] (defScope s_word_of) := ⟨rfl, rfl, rfl, by decide +kernel, rfl, by decide +kernel, by decide +kernel⟩
theorem bd_word_of {P : Program} {w : World} {K : PySem.W.Frag} {TT : List (Addr × Str)} {cv : Value → Prop} {mg : Str → Option Value} {base : Heap} (Tx : Txt K mg) (F_change_of : Fn P w (K, TT) mg base "change_of" 1 ["ones", "k"] Pl.sd_change_of) : BodyD P w K TT cv mg base N_word_of "word_of" (defScope s_word_of) (defBody s_word_of) 1 b_word_of := by
  intro f cdv A outer s H E hcv hr
  have nd : (N_word_of).Nodup := sc_word_of.nd
  exact (pdss_cons (pds_if (pdt_cp od_notN (pd_sub (ixd (hu_of hr)) (pd_var 0 (pv 0)) pd_int) pd_non) (pdss_one (pds_ret (pd_glob (by rfl) Tx.c_PASSED))) pdss_nil)
  (pdss_cons (pds_asg (pd_sub (ixd (hu_of hr)) (pd_fn F_change_of hr psD (pda_cons (pd_var 2 (pv 2)) (pda_cons (pd_var 3 (pv 3)) pda_nil))) pd_int) (pdg_name (i := 4) nd rfl (by first | exact Or.inl rfl | exact Or.inr rfl)))
  (pdss_cons (pds_for poD rfl (pdi_seq (pd_sub (ixd (hu_of hr)) (pd_var 0 (pv 0)) pd_int)) (pdg_tup rfl (pdgs_cons (pdg_name (i := 5) nd rfl (by first | exact Or.inl rfl | exact Or.inr rfl)) (pdgs_cons (pdg_name (i := 6) nd rfl (by first | exact Or.inl rfl | exact Or.inr rfl)) (pdgs_cons (pdg_name (i := 7) nd rfl (by first | exact Or.inl rfl | exact Or.inr rfl)) (pdgs_cons (pdg_name (i := 8) nd rfl (by first | exact Or.inl rfl | exact Or.inr rfl)) pdgs_nil))))) (pdss_one (pds_if (pdt_cp (od_eq hr.units) (pd_tup (pda_cons (pd_var 5 (pv 5)) (pda_cons (pd_var 6 (pv 6)) (pda_cons (pd_var 7 (pv 7)) pda_nil)))) (pd_tup (pda_cons (pd_var 3 (pv 3)) (pda_cons (pd_var 1 (pv 1)) (pda_cons (pd_var 4 (pv 4)) pda_nil))))) (pdss_one (pds_ret (pd_var 8 (pv 8)))) pdss_nil)))
  (pdss_cons (pds_if (PDW.pdt (pdw_and (pdt_cp od_notN (pd_sub (ixd (hu_of hr)) (pd_var 0 (pv 0)) pd_int) pd_non) (pdw_and (pdt_cp (od_eq hr.units) (pd_sub (ixd (hu_of hr)) (pd_sub (ixd (hu_of hr)) (pd_var 0 (pv 0)) pd_int) pd_int) (pd_var 1 (pv 1))) (pdw_and1 (pdt_cp (od_eq hr.units) (pd_get2 (hu_of hr) (pd_btt (cd_dictF rfl) Tx.f_dict (by decide +kernel) (pda_cons (pd_sub (ixd (hu_of hr)) (pd_sub (ixd (hu_of hr)) (pd_var 0 (pv 0)) pd_int) pd_int) pda_nil)) (pd_var 3 (pv 3)) pd_int ⟨rfl, rfl, rfl, rfl⟩) (pd_var 4 (pv 4))))))) (pdss_one (pds_ret (pd_sub (ixd (hu_of hr)) (pd_sub (ixd (hu_of hr)) (pd_var 0 (pv 0)) pd_int) pd_int))) pdss_nil)
  (pdss_one (pds_ret (pd_glob (by rfl) Tx.c_ASKED)))))))
abbrev s_words_of : Stmt := top 30
theorem sc_words_of : FnScope N_words_of ["say", "version", "ones", "many"] (defScope s_words_of) := ⟨rfl, rfl, rfl, by decide +kernel, rfl, by decide +kernel, by decide +kernel⟩
theorem bd_words_of {P : Program} {w : World} {K : PySem.W.Frag} {TT : List (Addr × Str)} {cv : Value → Prop} {mg : Str → Option Value} {base : Heap} (Tx : Txt K mg) (F_word_of : Fn P w (K, TT) mg base "word_of" 2 ["say", "version", "ones", "k"] sd_word_of) : BodyD P w K TT cv mg base N_words_of "words_of" (defScope s_words_of) (defBody s_words_of) 2 b_words_of := by
  intro f cdv A outer s H E hcv hr
  have nd : (N_words_of).Nodup := sc_words_of.nd
  exact (pdss_one (pds_ret (pd_lcF (own := [("k", 4)]) rfl nd (pdi_range1 rfl Tx.f_range (pd_var 3 (pv 3))) (blkOk_by (own := [("k", 4)]) (N := N_words_of) (sc := defScope s_words_of) (by decide +kernel)) (blk_name (i := 4) (by decide) (fun _ _ _ _ _ => pg_name (i := 4) nd rfl (by first | exact Or.inl rfl | exact Or.inr rfl)) (fun _ _ _ _ _ => pdts_nil) (fun _ _ _ _ _ => (pd_fn F_word_of hr passN (pda_cons (pd_var 0 (pv 0)) (pda_cons (pd_var 1 (pv 1)) (pda_cons (pd_var 2 (pv 2)) (pda_cons (pd_var 4 (pv 4)) pda_nil))))))))))
abbrev s_Record__init_ : Stmt := inClass (top 32) 0
theorem sc_Record__init_ : FnScope N_Record__init_ ["self", "parts"] (defScope s_Record__init_) := ⟨rfl, rfl, rfl, by decide +kernel, rfl, by decide +kernel, by decide +kernel⟩
theorem bd_Record__init_ {P : Program} {w : World} {K : PySem.W.Frag} {TT : List (Addr × Str)} {cv : Value → Prop} {mg : Str → Option Value} {base : Heap} (Tx : Txt K mg) : BodyD P w K TT cv mg base N_Record__init_ "Record.__init__" (defScope s_Record__init_) (defBody s_Record__init_) 0 (b_Record__init_ Tx.ca) := by
  intro f cdv A outer s H E hcv hr
  have nd : (N_Record__init_).Nodup := sc_Record__init_.nd
  exact (pdss_one (pds_asg (pd_var 1 (pv 1)) (pdg_tup rfl (pdgs_cons (pdg_fld Tx.cl_Record Tx.n_Record_stamp (pd_var 0 (pv 0))) (pdgs_cons (pdg_fld Tx.cl_Record Tx.n_Record_version (pd_var 0 (pv 0))) (pdgs_cons (pdg_fld Tx.cl_Record Tx.n_Record_over (pd_var 0 (pv 0))) (pdgs_cons (pdg_fld Tx.cl_Record Tx.n_Record_plan (pd_var 0 (pv 0))) (pdgs_cons (pdg_fld Tx.cl_Record Tx.n_Record_note (pd_var 0 (pv 0))) (pdgs_cons (pdg_fld Tx.cl_Record Tx.n_Record_ones (pd_var 0 (pv 0))) (pdgs_cons (pdg_fld Tx.cl_Record Tx.n_Record_guests (pd_var 0 (pv 0))) (pdgs_cons (pdg_fld Tx.cl_Record Tx.n_Record_says (pd_var 0 (pv 0))) pdgs_nil)))))))))))
abbrev s_Record_parts : Stmt := inClass (top 32) 1
theorem sc_Record_parts : FnScope N_Record_parts ["self"] (defScope s_Record_parts) := ⟨rfl, rfl, rfl, by decide +kernel, rfl, by decide +kernel, by decide +kernel⟩
theorem bd_Record_parts {P : Program} {w : World} {K : PySem.W.Frag} {TT : List (Addr × Str)} {cv : Value → Prop} {mg : Str → Option Value} {base : Heap} (Tx : Txt K mg) : BodyD P w K TT cv mg base N_Record_parts "Record.parts" (defScope s_Record_parts) (defBody s_Record_parts) 0 (b_Record_parts Tx.ca) := by
  intro f cdv A outer s H E hcv hr
  have nd : (N_Record_parts).Nodup := sc_Record_parts.nd
  exact (pdss_one (pds_ret (pd_tup (pda_cons (pd_fld Tx.cl_Record Tx.n_Record_stamp (pd_var 0 (pv 0))) (pda_cons (pd_fld Tx.cl_Record Tx.n_Record_version (pd_var 0 (pv 0))) (pda_cons (pd_fld Tx.cl_Record Tx.n_Record_over (pd_var 0 (pv 0))) (pda_cons (pd_fld Tx.cl_Record Tx.n_Record_plan (pd_var 0 (pv 0))) (pda_cons (pd_fld Tx.cl_Record Tx.n_Record_note (pd_var 0 (pv 0))) (pda_cons (pd_fld Tx.cl_Record Tx.n_Record_ones (pd_var 0 (pv 0))) (pda_cons (pd_fld Tx.cl_Record Tx.n_Record_guests (pd_var 0 (pv 0))) (pda_cons (pd_fld Tx.cl_Record Tx.n_Record_says (pd_var 0 (pv 0))) pda_nil)))))))))))
abbrev s_Record_hands : Stmt := inClass (top 32) 2
theorem sc_Record_hands : FnScope N_Record_hands ["self"] (defScope s_Record_hands) := ⟨rfl, rfl, rfl, by decide +kernel, rfl, by decide +kernel, by decide +kernel⟩
theorem bd_Record_hands {P : Program} {w : World} {K : PySem.W.Frag} {TT : List (Addr × Str)} {cv : Value → Prop} {mg : Str → Option Value} {base : Heap} (Tx : Txt K mg) : BodyD P w K TT cv mg base N_Record_hands "Record.hands" (defScope s_Record_hands) (defBody s_Record_hands) 0 (b_Record_hands Tx.ca) := by
  intro f cdv A outer s H E hcv hr
  have nd : (N_Record_hands).Nodup := sc_Record_hands.nd
  exact (pdss_one (pds_ret (pd_lcF (own := [("hand", 1), ("by", 2)]) rfl nd (pdi_seq (pd_fld Tx.cl_Record Tx.n_Record_guests (pd_var 0 (pv 0)))) (blkOk_by (own := [("hand", 1), ("by", 2)]) (N := N_Record_hands) (sc := defScope s_Record_hands) (by decide +kernel)) (blk_tup (is := [1, 2]) (by decide) (fun _ _ _ _ _ => pg_tup rfl (pgs_cons (pg_name (i := 1) nd rfl (by first | exact Or.inl rfl | exact Or.inr rfl)) (pgs_cons (pg_name (i := 2) nd rfl (by first | exact Or.inl rfl | exact Or.inr rfl)) pgs_nil))) (fun _ _ _ _ _ => pdts_nil) (fun _ _ _ _ _ => (pd_var 1 (pv 1)))))))
abbrev s_Record_say_of : Stmt := inClass (top 32) 3
theorem sc_Record_say_of : FnScope N_Record_say_of ["self", "hand"] (defScope s_Record_say_of) := ⟨rfl, rfl, rfl, by decide +kernel, rfl, by decide +kernel, by decide +kernel⟩
theorem bd_Record_say_of {P : Program} {w : World} {K : PySem.W.Frag} {TT : List (Addr × Str)} {cv : Value → Prop} {mg : Str → Option Value} {base : Heap} (Tx : Txt K mg) : BodyD P w K TT cv mg base N_Record_say_of "Record.say_of" (defScope s_Record_say_of) (defBody s_Record_say_of) 0 (b_Record_say_of Tx.ca) := by
  intro f cdv A outer s H E hcv hr
  have nd : (N_Record_say_of).Nodup := sc_Record_say_of.nd
  exact (pdss_one (pds_ret (pd_get2 (hu_of hr) (pd_btt (cd_dictF rfl) Tx.f_dict (by decide +kernel) (pda_cons (pd_fld Tx.cl_Record Tx.n_Record_says (pd_var 0 (pv 0))) pda_nil)) (pd_var 1 (pv 1)) (pd_glob (by rfl) Tx.c_NOTHING) ⟨rfl, rfl, rfl, rfl⟩)))
abbrev s_Record_grow : Stmt := inClass (top 32) 4
theorem sc_Record_grow : FnScope N_Record_grow ["self"] (defScope s_Record_grow) := ⟨rfl, rfl, rfl, by decide +kernel, rfl, by decide +kernel, by decide +kernel⟩
theorem bd_Record_grow {P : Program} {w : World} {K : PySem.W.Frag} {TT : List (Addr × Str)} {cv : Value → Prop} {mg : Str → Option Value} {base : Heap} (Tx : Txt K mg) : BodyD P w K TT cv mg base N_Record_grow "Record.grow" (defScope s_Record_grow) (defBody s_Record_grow) 0 (b_Record_grow Tx.ca) := by
  intro f cdv A outer s H E hcv hr
  have nd : (N_Record_grow).Nodup := sc_Record_grow.nd
  exact (pdss_one (pds_fld Tx.cl_Record Tx.n_Record_stamp (pd_var 0 (pv 0)) (pd_bin od_addF (pd_fld Tx.cl_Record Tx.n_Record_stamp (pd_var 0 (pv 0))) pd_int)))
abbrev s_Record_move : Stmt := inClass (top 32) 5
theorem sc_Record_move : FnScope N_Record_move ["self", "begin"] (defScope s_Record_move) := ⟨rfl, rfl, rfl, by decide +kernel, rfl, by decide +kernel, by decide +kernel⟩
theorem bd_Record_move {P : Program} {w : World} {K : PySem.W.Frag} {TT : List (Addr × Str)} {cv : Value → Prop} {mg : Str → Option Value} {base : Heap} (Tx : Txt K mg) (F_Record_grow : Mt P w (K, TT) mg base Tx.a_Record "grow" 1 ["self"] (sd_Record_grow Tx.ca)) : BodyD P w K TT cv mg base N_Record_move "Record.move" (defScope s_Record_move) (defBody s_Record_move) 1 (b_Record_move Tx.ca) := by
  intro f cdv A outer s H E hcv hr
  have nd : (N_Record_move).Nodup := sc_Record_move.nd
  exact (pdss_cons (pds_fld Tx.cl_Record Tx.n_Record_plan (pd_var 0 (pv 0)) (pd_bin od_addF (pd_tup (pda_cons (pd_var 1 (pv 1)) pda_nil)) (pd_slice sldF (pd_fld Tx.cl_Record Tx.n_Record_plan (pd_var 0 (pv 0))) (pdo_some pd_int) pdo_none)))
  (pdss_cons (pds_fld Tx.cl_Record Tx.n_Record_version (pd_var 0 (pv 0)) (pd_bin od_addF (pd_fld Tx.cl_Record Tx.n_Record_version (pd_var 0 (pv 0))) pd_int))
  (pdss_cons (pds_fld Tx.cl_Record Tx.n_Record_ones (pd_var 0 (pv 0)) (pd_tup pda_nil))
  (pdss_one (pds_expr (pd_mt0 Tx.cl_Record F_Record_grow hr psD (pd_var 0 (pv 0))))))))
abbrev s_Record_move_one : Stmt := inClass (top 32) 6
theorem sc_Record_move_one : FnScope N_Record_move_one ["self", "k", "begin"] (defScope s_Record_move_one) := ⟨rfl, rfl, rfl, by decide +kernel, rfl, by decide +kernel, by decide +kernel⟩
theorem bd_Record_move_one {P : Program} {w : World} {K : PySem.W.Frag} {TT : List (Addr × Str)} {cv : Value → Prop} {mg : Str → Option Value} {base : Heap} (Tx : Txt K mg) (F_changed : Fn P w (K, TT) mg base "changed" 3 ["ones", "k", "begin"] Pl.sd_changed) (F_Record_grow : Mt P w (K, TT) mg base Tx.a_Record "grow" 1 ["self"] (sd_Record_grow Tx.ca)) : BodyD P w K TT cv mg base N_Record_move_one "Record.move_one" (defScope s_Record_move_one) (defBody s_Record_move_one) 3 (b_Record_move_one Tx.ca) := by
  intro f cdv A outer s H E hcv hr
  have nd : (N_Record_move_one).Nodup := sc_Record_move_one.nd
  exact (pdss_cons (pds_fld Tx.cl_Record Tx.n_Record_ones (pd_var 0 (pv 0)) (pd_fn F_changed hr psD (pda_cons (pd_fld Tx.cl_Record Tx.n_Record_ones (pd_var 0 (pv 0))) (pda_cons (pd_var 1 (pv 1)) (pda_cons (pd_var 2 (pv 2)) pda_nil)))))
  (pdss_one (pds_expr (pd_mt0 Tx.cl_Record F_Record_grow hr psD (pd_var 0 (pv 0))))))
abbrev s_Record_add : Stmt := inClass (top 32) 7
theorem sc_Record_add : FnScope N_Record_add ["self", "hand", "by", "say"] (defScope s_Record_add) := ⟨rfl, rfl, rfl, by decide +kernel, rfl, by decide +kernel, by decide +kernel⟩
theorem bd_Record_add {P : Program} {w : World} {K : PySem.W.Frag} {TT : List (Addr × Str)} {mg : Str → Option Value} {base : Heap} (Tx : Txt K mg) (F_Record_hear : Mt P w (K, TT) mg base Tx.a_Record "hear" 3 ["self", "hand", "say"] (sd_Record_hear Tx.ca)) {c PA : Addr} (TB : LamX.TabB base mg c PA) (hmT : (PA, ("Record.add" : Str) ++ ".<locals>." ++ "<lambda>") ∈ TT) (huT : ∀ q ∈ TT, q.1 = PA → q.2 = ("Record.add" : Str) ++ ".<locals>." ++ "<lambda>") : BodyD P w K TT (fun v => v = .ref c) mg base N_Record_add "Record.add" (defScope s_Record_add) (defBody s_Record_add) 3 (b_Record_add Tx.ca) := by
  intro f cdv A outer s H E hcv hr
  have nd : (N_Record_add).Nodup := sc_Record_add.nd
  have hcode : cdv = .ref c := hcv
  subst hcode
  exact (pdss_cons (pds_fld Tx.cl_Record Tx.n_Record_guests (pd_var 0 (pv 0)) (pd_btt cd_tup Tx.f_tuple (by decide +kernel) (pda_cons (pd_sortGF (j := 0) (x := "row") (keyIx (i := 0)) encI_alike encI_sort encI_depth kI_tl TB rfl hmT huT (lam1_by (by decide +kernel)) rfl (fun _ _ _ _ => rfl) (hr.mono (by decide)) Tx.f_sorted (pd_bin od_addF (pd_fld Tx.cl_Record Tx.n_Record_guests (pd_var 0 (pv 0))) (pd_tup (pda_cons (pd_tup (pda_cons (pd_var 1 (pv 1)) (pda_cons (pd_var 2 (pv 2)) pda_nil))) pda_nil)))) pda_nil)))
  (pdss_one (pds_expr (pd_mt Tx.cl_Record F_Record_hear hr psD (pd_var 0 (pv 0)) (pda_cons (pd_var 1 (pv 1)) (pda_cons (pd_var 3 (pv 3)) pda_nil))))))
abbrev s_Record_drop : Stmt := inClass (top 32) 8
theorem sc_Record_drop : FnScope N_Record_drop ["self", "hand"] (defScope s_Record_drop) := ⟨rfl, rfl, rfl, by decide +kernel, rfl, by decide +kernel, by decide +kernel⟩
theorem bd_Record_drop {P : Program} {w : World} {K : PySem.W.Frag} {TT : List (Addr × Str)} {cv : Value → Prop} {mg : Str → Option Value} {base : Heap} (Tx : Txt K mg) (F_Record_grow : Mt P w (K, TT) mg base Tx.a_Record "grow" 1 ["self"] (sd_Record_grow Tx.ca)) : BodyD P w K TT cv mg base N_Record_drop "Record.drop" (defScope s_Record_drop) (defBody s_Record_drop) 1 (b_Record_drop Tx.ca) := by
  intro f cdv A outer s H E hcv hr
  have nd : (N_Record_drop).Nodup := sc_Record_drop.nd
  exact (pdss_cons (pds_fld Tx.cl_Record Tx.n_Record_guests (pd_var 0 (pv 0)) (pd_btt cd_tup Tx.f_tuple (by decide +kernel) (pda_cons (pd_lcF (own := [("row", 2)]) rfl nd (pdi_seq (pd_fld Tx.cl_Record Tx.n_Record_guests (pd_var 0 (pv 0)))) (blkOk_by (own := [("row", 2)]) (N := N_Record_drop) (sc := defScope s_Record_drop) (by decide +kernel)) (blk_name (i := 2) (by decide) (fun _ _ _ _ _ => pg_name (i := 2) nd rfl (by first | exact Or.inl rfl | exact Or.inr rfl)) (fun _ _ _ _ _ => (pdts_one (pdt_cp (od_ne hr.units) (pd_sub (ixd (hu_of hr)) (pd_var 2 (pv 2)) pd_int) (pd_var 1 (pv 1))))) (fun _ _ _ _ _ => (pd_var 2 (pv 2))))) pda_nil)))
  (pdss_cons (pds_fld Tx.cl_Record Tx.n_Record_says (pd_var 0 (pv 0)) (pd_btt cd_tupP Tx.f_tuple (by decide +kernel) (pda_cons (pd_lcF (own := [("row", 2)]) rfl nd (pdi_seq (pd_fld Tx.cl_Record Tx.n_Record_says (pd_var 0 (pv 0)))) (blkOk_by (own := [("row", 2)]) (N := N_Record_drop) (sc := defScope s_Record_drop) (by decide +kernel)) (blk_name (i := 2) (by decide) (fun _ _ _ _ _ => pg_name (i := 2) nd rfl (by first | exact Or.inl rfl | exact Or.inr rfl)) (fun _ _ _ _ _ => (pdts_one (pdt_cp (od_ne hr.units) (pd_sub (ixd (hu_of hr)) (pd_var 2 (pv 2)) pd_int) (pd_var 1 (pv 1))))) (fun _ _ _ _ _ => (pd_var 2 (pv 2))))) pda_nil)))
  (pdss_one (pds_expr (pd_mt0 Tx.cl_Record F_Record_grow hr psD (pd_var 0 (pv 0)))))))
abbrev s_Record_hear : Stmt := inClass (top 32) 9
theorem sc_Record_hear : FnScope N_Record_hear ["self", "hand", "say"] (defScope s_Record_hear) := ⟨rfl, rfl, rfl, by decide +kernel, rfl, by decide +kernel, by decide +kernel⟩
theorem bd_Record_hear {P : Program} {w : World} {K : PySem.W.Frag} {TT : List (Addr × Str)} {mg : Str → Option Value} {base : Heap} (Tx : Txt K mg) (F_Record_grow : Mt P w (K, TT) mg base Tx.a_Record "grow" 1 ["self"] (sd_Record_grow Tx.ca)) {c PA : Addr} (TB : LamX.TabB base mg c PA) (hmT : (PA, ("Record.hear" : Str) ++ ".<locals>." ++ "<lambda>") ∈ TT) (huT : ∀ q ∈ TT, q.1 = PA → q.2 = ("Record.hear" : Str) ++ ".<locals>." ++ "<lambda>") : BodyD P w K TT (fun v => v = .ref c) mg base N_Record_hear "Record.hear" (defScope s_Record_hear) (defBody s_Record_hear) 2 (b_Record_hear Tx.ca) := by
  intro f cdv A outer s H E hcv hr
  have nd : (N_Record_hear).Nodup := sc_Record_hear.nd
  have hcode : cdv = .ref c := hcv
  subst hcode
  exact (pdss_cons (pds_setLcF (i := 3) (own := [("row", 4)]) rfl nd rfl rfl (sw_true rfl rfl rfl (by decide +kernel)) (pdi_seq (pd_fld Tx.cl_Record Tx.n_Record_says (pd_var 0 (pv 0)))) (blkOk_by (own := [("row", 4)]) (N := N_Record_hear) (sc := defScope s_Record_hear) (by decide +kernel)) (blk_name (i := 4) (by decide) (fun _ _ _ _ _ => pg_name (i := 4) nd rfl (by first | exact Or.inl rfl | exact Or.inr rfl)) (fun _ _ _ _ _ => (pdts_one (pdt_cp (od_ne hr.units) (pd_sub (ixd (hu_of hr)) (pd_var 4 (pv 4)) pd_int) (pd_var 1 (pv 1))))) (fun _ _ _ _ _ => (pd_var 4 (pv 4)))))
  (pdss_cons (pds_fld Tx.cl_Record Tx.n_Record_says (pd_var 0 (pv 0)) (pd_btt cd_tupP Tx.f_tuple (by decide +kernel) (pda_cons (pd_sortGF (j := 0) (x := "row") (keyIx (i := 0)) encI_alike encI_sort encI_depth kI_tl TB rfl hmT huT (lam1_by (by decide +kernel)) rfl (fun _ _ _ _ => rfl) (hr.mono (by decide)) Tx.f_sorted (pd_bin od_addF (pd_var 3 (pv 3)) (pd_lstF (pda_cons (pd_tup (pda_cons (pd_var 1 (pv 1)) (pda_cons (pd_var 2 (pv 2)) pda_nil))) pda_nil)))) pda_nil)))
  (pdss_one (pds_expr (pd_mt0 Tx.cl_Record F_Record_grow hr psD (pd_var 0 (pv 0)))))))
abbrev s_is_between : Stmt := top 15
theorem sc_is_between : FnScope N_is_between ["part", "low", "high"] (defScope s_is_between) := ⟨rfl, rfl, rfl, by decide +kernel, rfl, by decide +kernel, by decide +kernel⟩
theorem bd_is_between {P : Program} {w : World} {K : PySem.W.Frag} {TT : List (Addr × Str)} {cv : Value → Prop} {mg : Str → Option Value} {base : Heap} (Tx : Txt K mg) : BodyD P w K TT cv mg base N_is_between "is_between" (defScope s_is_between) (defBody s_is_between) 0 b_is_between := by
  intro f cdv A outer s H E hcv hr
  have nd : (N_is_between).Nodup := sc_is_between.nd
  exact (pdss_one (pds_ret (pd_and (pd_blt cd_isi Tx.f_isinstance (by decide +kernel) (pda_cons (pd_var 0 (pv 0)) (pda_cons (pd_ty Tx.f_int (by decide +kernel)) pda_nil))) (pd_and (pd_not (pd_blt cd_isi Tx.f_isinstance (by decide +kernel) (pda_cons (pd_var 0 (pv 0)) (pda_cons (pd_ty Tx.f_bool (by decide +kernel)) pda_nil)))) (pd_one (pd_cp2 od_le od_le (pd_var 1 (pv 1)) (pd_var 0 (pv 0)) (pd_var 2 (pv 2))))))))
abbrev s_is_plan : Stmt := top 16
theorem sc_is_plan : FnScope N_is_plan ["plan"] (defScope s_is_plan) := ⟨rfl, rfl, rfl, by decide +kernel, rfl, by decide +kernel, by decide +kernel⟩
theorem bd_is_plan {P : Program} {w : World} {K : PySem.W.Frag} {TT : List (Addr × Str)} {cv : Value → Prop} {mg : Str → Option Value} {base : Heap} (Tx : Txt K mg) (F_is_between : Fn P w (K, TT) mg base "is_between" 1 ["part", "low", "high"] Pl.sd_is_between) : BodyD P w K TT cv mg base N_is_plan "is_plan" (defScope s_is_plan) (defBody s_is_plan) 1 b_is_plan := by
  intro f cdv A outer s H E hcv hr
  have nd : (N_is_plan).Nodup := sc_is_plan.nd
  exact (pdss_cons (pds_if (PDW.pdt (pdw_or (pdt_not (pdt_val (pd_blt cd_isi Tx.f_isinstance (by decide +kernel) (pda_cons (pd_var 0 (pv 0)) (pda_cons (pd_ty Tx.f_tuple (by decide +kernel)) pda_nil))))) (pdw_or1 (pdt_cp (od_ne hr.units) (pd_blt cd_len Tx.f_len (by decide +kernel) (pda_cons (pd_var 0 (pv 0)) pda_nil)) pd_int)))) (pdss_one (pds_ret pd_bl)) pdss_nil)
  (pdss_cons (pds_asg (pd_var 0 (pv 0)) (pdg_tup rfl (pdgs_cons (pdg_name (i := 1) nd rfl (by first | exact Or.inl rfl | exact Or.inr rfl)) (pdgs_cons (pdg_name (i := 2) nd rfl (by first | exact Or.inl rfl | exact Or.inr rfl)) (pdgs_cons (pdg_name (i := 3) nd rfl (by first | exact Or.inl rfl | exact Or.inr rfl)) (pdgs_cons (pdg_name (i := 4) nd rfl (by first | exact Or.inl rfl | exact Or.inr rfl)) pdgs_nil))))))
  (pdss_cons (pds_asg (pd_and (pd_fn F_is_between hr psD (pda_cons (pd_var 1 (pv 1)) (pda_cons pd_int (pda_cons (pd_glob (by rfl) Tx.c_MOST_BEGIN) pda_nil)))) (pd_one (pd_fn F_is_between hr psD (pda_cons (pd_var 2 (pv 2)) (pda_cons pd_int (pda_cons (pd_glob (by rfl) Tx.c_MOST_LONG) pda_nil)))))) (pdg_name (i := 5) nd rfl (by first | exact Or.inl rfl | exact Or.inr rfl)))
  (pdss_one (pds_ret (pd_and (pd_var 5 (pv 5)) (pd_and (pd_fn F_is_between hr psD (pda_cons (pd_var 3 (pv 3)) (pda_cons pd_int (pda_cons (pd_glob (by rfl) Tx.c_MOST_EVERY) pda_nil)))) (pd_one (pd_fn F_is_between hr psD (pda_cons (pd_var 4 (pv 4)) (pda_cons pd_int (pda_cons (pd_glob (by rfl) Tx.c_MOST_MANY) pda_nil))))))))))))
abbrev s_need_plan : Stmt := top 17
theorem sc_need_plan : FnScope N_need_plan ["plan"] (defScope s_need_plan) := ⟨rfl, rfl, rfl, by decide +kernel, rfl, by decide +kernel, by decide +kernel⟩
theorem bd_need_plan {P : Program} {w : World} {K : PySem.W.Frag} {TT : List (Addr × Str)} {cv : Value → Prop} {mg : Str → Option Value} {base : Heap} (Tx : Txt K mg) (F_is_plan : Fn P w (K, TT) mg base "is_plan" 2 ["plan"] Pl.sd_is_plan) : BodyD P w K TT cv mg base N_need_plan "need_plan" (defScope s_need_plan) (defBody s_need_plan) 2 (b_need_plan Tx.a_BadPlan) := by
  intro f cdv A outer s H E hcv hr
  have nd : (N_need_plan).Nodup := sc_need_plan.nd
  exact (pdss_one (pds_if (pdt_not (pdt_val (pd_fn F_is_plan hr psD (pda_cons (pd_var 0 (pv 0)) pda_nil)))) (pdss_one (pds_raise Tx.e_BadPlan tkD)) pdss_nil))
abbrev s_is_name : Stmt := top 18
theorem sc_is_name : FnScope Hd.N_is_name ["text"] (defScope s_is_name) := ⟨rfl, rfl, rfl, by decide +kernel, rfl, by decide +kernel, by decide +kernel⟩
theorem bd_is_name {P : Program} {w : World} {K : PySem.W.Frag} {TT : List (Addr × Str)} {cv : Value → Prop} {mg : Str → Option Value} {base : Heap} (Tx : Txt K mg) : BodyD P w K TT cv mg base Hd.N_is_name "is_name" (defScope s_is_name) (defBody s_is_name) 0 Hd.b_is_name := by
  intro f cdv A outer s H E hcv hr
  have nd : (Hd.N_is_name).Nodup := sc_is_name.nd
  exact (pdss_one (pds_ret (pd_and (pd_blt cd_isi Tx.f_isinstance (by decide +kernel) (pda_cons (pd_var 0 (pv 0)) (pda_cons (pd_ty Tx.f_str (by decide +kernel)) pda_nil))) (pd_and (pd_cp od_le (pd_blt cd_len Tx.f_len (by decide +kernel) (pda_cons (pd_var 0 (pv 0)) pda_nil)) (pd_glob (by rfl) Tx.c_MOST_NAME)) (pd_one (pd_cp (od_eq hr.units) (pd_lcF (own := [("sign", 1)]) rfl nd (pdi_str (pd_var 0 (pv 0))) (blkOk_by (own := [("sign", 1)]) (N := Hd.N_is_name) (sc := defScope s_is_name) (by decide +kernel)) (blk_name (i := 1) (by decide) (fun _ _ _ _ _ => pg_name (i := 1) nd rfl (by first | exact Or.inl rfl | exact Or.inr rfl)) (fun _ _ _ _ _ => (pdts_one (pdt_cp (od_notIn (hu_of hr)) (pd_var 1 (pv 1)) (pd_glob (by rfl) Tx.c_LETTERS)))) (fun _ _ _ _ _ => (pd_var 1 (pv 1))))) (pd_lstF pda_nil)))))))
abbrev s_need_hand : Stmt := top 36
theorem sc_need_hand : FnScope N_need_hand ["number"] (defScope s_need_hand) := ⟨rfl, rfl, rfl, by decide +kernel, rfl, by decide +kernel, by decide +kernel⟩
theorem bd_need_hand {P : Program} {w : World} {K : PySem.W.Frag} {TT : List (Addr × Str)} {cv : Value → Prop} {mg : Str → Option Value} {base : Heap} (Tx : Txt K mg) (F_is_between : Fn P w (K, TT) mg base "is_between" 1 ["part", "low", "high"] Pl.sd_is_between) : BodyD P w K TT cv mg base N_need_hand "need_hand" (defScope s_need_hand) (defBody s_need_hand) 1 (b_need_hand Tx.ca) := by
  intro f cdv A outer s H E hcv hr
  have nd : (N_need_hand).Nodup := sc_need_hand.nd
  exact (pdss_one (pds_if (pdt_not (pdt_val (pd_fn F_is_between hr psD (pda_cons (pd_var 0 (pv 0)) (pda_cons pd_int (pda_cons (pd_bin od_sub (pd_glob (by rfl) Tx.c_HANDS) pd_int) pda_nil)))))) (pdss_one (pds_raise Tx.e_BadHand tkD)) pdss_nil))
abbrev s_first_record : Stmt := top 33
theorem sc_first_record : FnScope N_first_record ["plan", "guests"] (defScope s_first_record) := ⟨rfl, rfl, rfl, by decide +kernel, rfl, by decide +kernel, by decide +kernel⟩
theorem bd_first_record {P : Program} {w : World} {K : PySem.W.Frag} {TT : List (Addr × Str)} {cv : Value → Prop} {mg : Str → Option Value} {base : Heap} (Tx : Txt K mg) (M_Record : Mr P w (K, TT) mg base "Record" Tx.a_Record 1 ["self", "parts"] (sd_Record__init_ Tx.ca)) : BodyD P w K TT cv mg base N_first_record "first_record" (defScope s_first_record) (defBody s_first_record) 2 (b_first_record Tx.ca) := by
  intro f cdv A outer s H E hcv hr
  have nd : (N_first_record).Nodup := sc_first_record.nd
  exact (pdss_one (pds_ret (pd_mk M_Record hr psD (pda_cons (pd_tup (pda_cons pd_int (pda_cons pd_int (pda_cons pd_bl (pda_cons (pd_var 0 (pv 0)) (pda_cons pd_str (pda_cons (pd_tup pda_nil) (pda_cons (pd_btt cd_tup Tx.f_tuple (by decide +kernel) (pda_cons (pd_lcF (own := [("hand", 2)]) rfl nd (pdi_seq (pd_blt (cd_sortedF hr.units) Tx.f_sorted (by decide +kernel) (pda_cons (pd_var 1 (pv 1)) pda_nil))) (blkOk_by (own := [("hand", 2)]) (N := N_first_record) (sc := defScope s_first_record) (by decide +kernel)) (blk_name (i := 2) (by decide) (fun _ _ _ _ _ => pg_name (i := 2) nd rfl (by first | exact Or.inl rfl | exact Or.inr rfl)) (fun _ _ _ _ _ => pdts_nil) (fun _ _ _ _ _ => (pd_tup (pda_cons (pd_var 2 (pv 2)) (pda_cons pd_non pda_nil)))))) pda_nil)) (pda_cons (pd_tupP pda_nil) pda_nil))))))))) pda_nil))))
abbrev s_Hosted__init_ : Stmt := inClass (top 37) 0
theorem sc_Hosted__init_ : FnScope N_Hosted__init_ ["self", "record"] (defScope s_Hosted__init_) := ⟨rfl, rfl, rfl, by decide +kernel, rfl, by decide +kernel, by decide +kernel⟩
theorem bd_Hosted__init_ {P : Program} {w : World} {K : PySem.W.Frag} {TT : List (Addr × Str)} {cv : Value → Prop} {mg : Str → Option Value} {base : Heap} (Tx : Txt K mg) (F_Record_hands : Mt P w (K, TT) mg base Tx.a_Record "hands" 1 ["self"] (sd_Record_hands Tx.ca)) : BodyD P w K TT cv mg base N_Hosted__init_ "Hosted.__init__" (defScope s_Hosted__init_) (defBody s_Hosted__init_) 1 (b_Hosted__init_ Tx.ca) := by
  intro f cdv A outer s H E hcv hr
  have nd : (N_Hosted__init_).Nodup := sc_Hosted__init_.nd
  exact (pdss_cons (pds_fld Tx.cl_Hosted Tx.n_Hosted_record (pd_var 0 (pv 0)) (pd_var 1 (pv 1)))
  (pdss_cons (pds_fld Tx.cl_Hosted Tx.n_Hosted_heard (pd_var 0 (pv 0)) pd_newK)
  (pdss_one (pds_fld Tx.cl_Hosted Tx.n_Hosted_known (pd_var 0 (pv 0)) (pd_btt (cd_dict rfl) Tx.f_dict (by decide +kernel) (pda_cons (pd_lcF (own := [("hand", 2)]) rfl nd (pdi_seq (pd_mt0 Tx.cl_Record F_Record_hands hr psD (pd_var 1 (pv 1)))) (blkOk_by (own := [("hand", 2)]) (N := N_Hosted__init_) (sc := defScope s_Hosted__init_) (by decide +kernel)) (blk_name (i := 2) (by decide) (fun _ _ _ _ _ => pg_name (i := 2) nd rfl (by first | exact Or.inl rfl | exact Or.inr rfl)) (fun _ _ _ _ _ => pdts_nil) (fun _ _ _ _ _ => (pd_tup (pda_cons (pd_var 2 (pv 2)) (pda_cons pd_int pda_nil)))))) pda_nil))))))
abbrev s_Hand__init_ : Stmt := inClass (top 38) 0
theorem sc_Hand__init_ : FnScope N_Hand__init_ ["self", "number"] (defScope s_Hand__init_) := ⟨rfl, rfl, rfl, by decide +kernel, rfl, by decide +kernel, by decide +kernel⟩
theorem bd_Hand__init_ {P : Program} {w : World} {K : PySem.W.Frag} {TT : List (Addr × Str)} {cv : Value → Prop} {mg : Str → Option Value} {base : Heap} (Tx : Txt K mg) (F_need_hand : Fn P w (K, TT) mg base "need_hand" 2 ["number"] (sd_need_hand Tx.ca)) : BodyD P w K TT cv mg base N_Hand__init_ "Hand.__init__" (defScope s_Hand__init_) (defBody s_Hand__init_) 2 (b_Hand__init_ Tx.ca) := by
  intro f cdv A outer s H E hcv hr
  have nd : (N_Hand__init_).Nodup := sc_Hand__init_.nd
  exact (pdss_cons (pds_expr (pd_fn F_need_hand hr psD (pda_cons (pd_var 1 (pv 1)) pda_nil)))
  (pdss_cons (pds_fld Tx.cl_Hand Tx.n_Hand_me (pd_var 0 (pv 0)) (pd_var 1 (pv 1)))
  (pdss_cons (pds_fld Tx.cl_Hand Tx.n_Hand_own (pd_var 0 (pv 0)) (pd_lst pda_nil))
  (pdss_one (pds_fld Tx.cl_Hand Tx.n_Hand_calls (pd_var 0 (pv 0)) pd_newT)))))
abbrev s_Hand_to : Stmt := inClass (top 38) 1
theorem sc_Hand_to : FnScope N_Hand_to ["self", "hand", "body"] (defScope s_Hand_to) := ⟨rfl, rfl, rfl, by decide +kernel, rfl, by decide +kernel, by decide +kernel⟩
theorem bd_Hand_to {P : Program} {w : World} {K : PySem.W.Frag} {TT : List (Addr × Str)} {cv : Value → Prop} {mg : Str → Option Value} {base : Heap} (Tx : Txt K mg) : BodyD P w K TT cv mg base N_Hand_to "Hand.to" (defScope s_Hand_to) (defBody s_Hand_to) 0 b_Hand_to := by
  intro f cdv A outer s H E hcv hr
  have nd : (N_Hand_to).Nodup := sc_Hand_to.nd
  exact (pdss_one (pds_ret (pd_tup (pda_cons (pd_tup (pda_cons pd_str (pda_cons (pd_var 1 (pv 1)) pda_nil))) (pda_cons (pd_var 2 (pv 2)) pda_nil)))))
abbrev s_Hand_tell : Stmt := inClass (top 38) 2
theorem sc_Hand_tell : FnScope N_Hand_tell ["self", "number", "hand"] (defScope s_Hand_tell) := ⟨rfl, rfl, rfl, by decide +kernel, rfl, by decide +kernel, by decide +kernel⟩
theorem bd_Hand_tell {P : Program} {w : World} {K : PySem.W.Frag} {TT : List (Addr × Str)} {cv : Value → Prop} {mg : Str → Option Value} {base : Heap} (Tx : Txt K mg) (F_Hand_to : Mt P w (K, TT) mg base Tx.a_Hand "to" 1 ["self", "hand", "body"] (sd_Hand_to Tx.ca)) (F_Record_parts : Mt P w (K, TT) mg base Tx.a_Record "parts" 1 ["self"] (sd_Record_parts Tx.ca)) : BodyD P w K TT cv mg base N_Hand_tell "Hand.tell" (defScope s_Hand_tell) (defBody s_Hand_tell) 1 (b_Hand_tell Tx.ca) := by
  intro f cdv A outer s H E hcv hr
  have nd : (N_Hand_tell).Nodup := sc_Hand_tell.nd
  exact (pdss_one (pds_ret (pd_mt Tx.cl_Hand F_Hand_to hr psD (pd_var 0 (pv 0)) (pda_cons (pd_var 2 (pv 2)) (pda_cons (pd_tup (pda_cons pd_str (pda_cons (pd_fld Tx.cl_Hand Tx.n_Hand_me (pd_var 0 (pv 0))) (pda_cons (pd_var 1 (pv 1)) (pda_cons (pd_mt0 Tx.cl_Record F_Record_parts hr psD (pd_fld Tx.cl_Hosted Tx.n_Hosted_record (pd_sub (ixd (hu_of hr)) (pd_fld Tx.cl_Hand Tx.n_Hand_own (pd_var 0 (pv 0))) (pd_var 1 (pv 1))))) pda_nil))))) pda_nil)))))
abbrev s_Hand_lacking : Stmt := inClass (top 38) 3
theorem sc_Hand_lacking : FnScope N_Hand_lacking ["self", "number"] (defScope s_Hand_lacking) := ⟨rfl, rfl, rfl, by decide +kernel, rfl, by decide +kernel, by decide +kernel⟩
theorem bd_Hand_lacking {P : Program} {w : World} {K : PySem.W.Frag} {TT : List (Addr × Str)} {cv : Value → Prop} {mg : Str → Option Value} {base : Heap} (Tx : Txt K mg) (F_Hand_tell : Mt P w (K, TT) mg base Tx.a_Hand "tell" 2 ["self", "number", "hand"] (sd_Hand_tell Tx.ca)) : BodyD P w K TT cv mg base N_Hand_lacking "Hand.lacking" (defScope s_Hand_lacking) (defBody s_Hand_lacking) 2 (b_Hand_lacking Tx.ca) := by
  intro f cdv A outer s H E hcv hr
  have nd : (N_Hand_lacking).Nodup := sc_Hand_lacking.nd
  exact (pdss_cons (pds_asg (pd_sub (ixd (hu_of hr)) (pd_fld Tx.cl_Hand Tx.n_Hand_own (pd_var 0 (pv 0))) (pd_var 1 (pv 1))) (pdg_name (i := 2) nd rfl (by first | exact Or.inl rfl | exact Or.inr rfl)))
  (pdss_one (pds_ret (pd_lcF (own := [("hand", 3)]) rfl nd (pdi_seq (pd_blt (cd_sortDI rfl) Tx.f_sorted (by decide +kernel) (pda_cons (pd_fld Tx.cl_Hosted Tx.n_Hosted_known (pd_var 2 (pv 2))) pda_nil))) (blkOk_by (own := [("hand", 3)]) (N := N_Hand_lacking) (sc := defScope s_Hand_lacking) (by decide +kernel)) (blk_name (i := 3) (by decide) (fun _ _ _ _ _ => pg_name (i := 3) nd rfl (by first | exact Or.inl rfl | exact Or.inr rfl)) (fun _ _ _ _ _ => (pdts_one (pdt_cp od_lt (pd_sub (ixd (hu_of hr)) (pd_fld Tx.cl_Hosted Tx.n_Hosted_known (pd_var 2 (pv 2))) (pd_var 3 (pv 3))) (pd_fld Tx.cl_Record Tx.n_Record_stamp (pd_fld Tx.cl_Hosted Tx.n_Hosted_record (pd_var 2 (pv 2))))))) (fun _ _ _ _ _ => (pd_mt Tx.cl_Hand F_Hand_tell hr passN (pd_var 0 (pv 0)) (pda_cons (pd_var 1 (pv 1)) (pda_cons (pd_var 3 (pv 3)) pda_nil)))))))))
abbrev s_Hand_hosted : Stmt := inClass (top 38) 5
theorem sc_Hand_hosted : FnScope N_Hand_hosted ["self", "number"] (defScope s_Hand_hosted) := ⟨rfl, rfl, rfl, by decide +kernel, rfl, by decide +kernel, by decide +kernel⟩
theorem bd_Hand_hosted {P : Program} {w : World} {K : PySem.W.Frag} {TT : List (Addr × Str)} {cv : Value → Prop} {mg : Str → Option Value} {base : Heap} (Tx : Txt K mg) (F_is_between : Fn P w (K, TT) mg base "is_between" 1 ["part", "low", "high"] Pl.sd_is_between) : BodyD P w K TT cv mg base N_Hand_hosted "Hand.hosted" (defScope s_Hand_hosted) (defBody s_Hand_hosted) 1 (b_Hand_hosted Tx.ca) := by
  intro f cdv A outer s H E hcv hr
  have nd : (N_Hand_hosted).Nodup := sc_Hand_hosted.nd
  exact (pdss_cons (pds_if (PDW.pdt (pdw_or (pdt_not (pdt_val (pd_fn F_is_between hr psD (pda_cons (pd_var 1 (pv 1)) (pda_cons pd_int (pda_cons (pd_bin od_sub (pd_blt cd_len Tx.f_len (by decide +kernel) (pda_cons (pd_fld Tx.cl_Hand Tx.n_Hand_own (pd_var 0 (pv 0))) pda_nil)) pd_int) pda_nil)))))) (pdw_or1 (pdt_val (pd_fld Tx.cl_Record Tx.n_Record_over (pd_fld Tx.cl_Hosted Tx.n_Hosted_record (pd_sub (ixd (hu_of hr)) (pd_fld Tx.cl_Hand Tx.n_Hand_own (pd_var 0 (pv 0))) (pd_var 1 (pv 1))))))))) (pdss_one (pds_raise Tx.e_NoMeeting tkD)) pdss_nil)
  (pdss_one (pds_ret (pd_sub (ixd (hu_of hr)) (pd_fld Tx.cl_Hand Tx.n_Hand_own (pd_var 0 (pv 0))) (pd_var 1 (pv 1))))))
abbrev s_Hand_need_guest : Stmt := inClass (top 38) 6
theorem sc_Hand_need_guest : FnScope N_Hand_need_guest ["self", "hand"] (defScope s_Hand_need_guest) := ⟨rfl, rfl, rfl, by decide +kernel, rfl, by decide +kernel, by decide +kernel⟩
theorem bd_Hand_need_guest {P : Program} {w : World} {K : PySem.W.Frag} {TT : List (Addr × Str)} {cv : Value → Prop} {mg : Str → Option Value} {base : Heap} (Tx : Txt K mg) (F_need_hand : Fn P w (K, TT) mg base "need_hand" 2 ["number"] (sd_need_hand Tx.ca)) : BodyD P w K TT cv mg base N_Hand_need_guest "Hand.need_guest" (defScope s_Hand_need_guest) (defBody s_Hand_need_guest) 2 (b_Hand_need_guest Tx.ca) := by
  intro f cdv A outer s H E hcv hr
  have nd : (N_Hand_need_guest).Nodup := sc_Hand_need_guest.nd
  exact (pdss_cons (pds_expr (pd_fn F_need_hand hr psD (pda_cons (pd_var 1 (pv 1)) pda_nil)))
  (pdss_one (pds_if (pdt_cp (od_eq hr.units) (pd_var 1 (pv 1)) (pd_fld Tx.cl_Hand Tx.n_Hand_me (pd_var 0 (pv 0)))) (pdss_one (pds_raise Tx.e_BadHand tkD)) pdss_nil)))
abbrev s_Hand_call : Stmt := inClass (top 38) 7
theorem sc_Hand_call : FnScope N_Hand_call ["self", "plan", "guests"] (defScope s_Hand_call) := ⟨rfl, rfl, rfl, by decide +kernel, rfl, by decide +kernel, by decide +kernel⟩
theorem bd_Hand_call {P : Program} {w : World} {K : PySem.W.Frag} {TT : List (Addr × Str)} {cv : Value → Prop} {mg : Str → Option Value} {base : Heap} (Tx : Txt K mg) (F_first_record : Fn P w (K, TT) mg base "first_record" 3 ["plan", "guests"] (sd_first_record Tx.ca)) (F_need_plan : Fn P w (K, TT) mg base "need_plan" 3 ["plan"] (Pl.sd_need_plan Tx.ca.BadPlan)) (F_Hand_lacking : Mt P w (K, TT) mg base Tx.a_Hand "lacking" 3 ["self", "number"] (sd_Hand_lacking Tx.ca)) (F_Hand_need_guest : Mt P w (K, TT) mg base Tx.a_Hand "need_guest" 3 ["self", "hand"] (sd_Hand_need_guest Tx.ca)) (M_Hosted : Mr P w (K, TT) mg base "Hosted" Tx.a_Hosted 2 ["self", "record"] (sd_Hosted__init_ Tx.ca)) : BodyD P w K TT cv mg base N_Hand_call "Hand.call" (defScope s_Hand_call) (defBody s_Hand_call) 3 (b_Hand_call Tx.ca) := by
  intro f cdv A outer s H E hcv hr
  have nd : (N_Hand_call).Nodup := sc_Hand_call.nd
  exact (pdss_cons (pds_expr (pd_fn F_need_plan hr psD (pda_cons (pd_var 1 (pv 1)) pda_nil)))
  (pdss_cons (pds_for poD rfl (pdi_seq (pd_var 2 (pv 2))) (pdg_name (i := 3) nd rfl (by first | exact Or.inl rfl | exact Or.inr rfl)) (pdss_one (pds_expr (pd_mt Tx.cl_Hand F_Hand_need_guest hr psD (pd_var 0 (pv 0)) (pda_cons (pd_var 3 (pv 3)) pda_nil)))))
  (pdss_cons (pds_if (PDW.pdt (pdw_or (pdt_cp od_gt (pd_blt cd_len Tx.f_len (by decide +kernel) (pda_cons (pd_var 2 (pv 2)) pda_nil)) (pd_glob (by rfl) Tx.c_MOST_GUESTS)) (pdw_or1 (pdt_cp od_lt (pd_lenSet Tx.f_len Tx.f_set (pd_var 2 (pv 2))) (pd_blt cd_len Tx.f_len (by decide +kernel) (pda_cons (pd_var 2 (pv 2)) pda_nil)))))) (pdss_one (pds_raise Tx.e_BadHand tkD)) pdss_nil)
  (pdss_cons (pds_expr (pd_bm PySem.F.plainAttrs_list PySem.F.slot_list_append PySem.F.type_list_append md_append (pd_fld Tx.cl_Hand Tx.n_Hand_own (pd_var 0 (pv 0))) (pda_cons (pd_mk M_Hosted hr psD (pda_cons (pd_fn F_first_record hr psD (pda_cons (pd_var 1 (pv 1)) (pda_cons (pd_var 2 (pv 2)) pda_nil))) pda_nil)) pda_nil)))
  (pdss_one (pds_ret (pd_tup (pda_cons (pd_bin od_sub (pd_blt cd_len Tx.f_len (by decide +kernel) (pda_cons (pd_fld Tx.cl_Hand Tx.n_Hand_own (pd_var 0 (pv 0))) pda_nil)) pd_int) (pda_cons (pd_mt Tx.cl_Hand F_Hand_lacking hr psD (pd_var 0 (pv 0)) (pda_cons (pd_bin od_sub (pd_blt cd_len Tx.f_len (by decide +kernel) (pda_cons (pd_fld Tx.cl_Hand Tx.n_Hand_own (pd_var 0 (pv 0))) pda_nil)) pd_int) pda_nil)) pda_nil)))))))))
abbrev s_Hand_need_begin : Stmt := inClass (top 38) 8
theorem sc_Hand_need_begin : FnScope N_Hand_need_begin ["self", "begin"] (defScope s_Hand_need_begin) := ⟨rfl, rfl, rfl, by decide +kernel, rfl, by decide +kernel, by decide +kernel⟩
theorem bd_Hand_need_begin {P : Program} {w : World} {K : PySem.W.Frag} {TT : List (Addr × Str)} {cv : Value → Prop} {mg : Str → Option Value} {base : Heap} (Tx : Txt K mg) (F_is_between : Fn P w (K, TT) mg base "is_between" 1 ["part", "low", "high"] Pl.sd_is_between) : BodyD P w K TT cv mg base N_Hand_need_begin "Hand.need_begin" (defScope s_Hand_need_begin) (defBody s_Hand_need_begin) 1 (b_Hand_need_begin Tx.ca) := by
  intro f cdv A outer s H E hcv hr
  have nd : (N_Hand_need_begin).Nodup := sc_Hand_need_begin.nd
  exact (pdss_one (pds_if (pdt_not (pdt_val (pd_fn F_is_between hr psD (pda_cons (pd_var 1 (pv 1)) (pda_cons pd_int (pda_cons (pd_glob (by rfl) Tx.c_MOST_BEGIN) pda_nil)))))) (pdss_one (pds_raise Tx.e_BadWord tkD)) pdss_nil))
abbrev s_Hand_move : Stmt := inClass (top 38) 9
theorem sc_Hand_move : FnScope N_Hand_move ["self", "number", "begin"] (defScope s_Hand_move) := ⟨rfl, rfl, rfl, by decide +kernel, rfl, by decide +kernel, by decide +kernel⟩
theorem bd_Hand_move {P : Program} {w : World} {K : PySem.W.Frag} {TT : List (Addr × Str)} {cv : Value → Prop} {mg : Str → Option Value} {base : Heap} (Tx : Txt K mg) (F_Hand_hosted : Mt P w (K, TT) mg base Tx.a_Hand "hosted" 2 ["self", "number"] (sd_Hand_hosted Tx.ca)) (F_Hand_lacking : Mt P w (K, TT) mg base Tx.a_Hand "lacking" 3 ["self", "number"] (sd_Hand_lacking Tx.ca)) (F_Hand_need_begin : Mt P w (K, TT) mg base Tx.a_Hand "need_begin" 2 ["self", "begin"] (sd_Hand_need_begin Tx.ca)) (F_Record_move : Mt P w (K, TT) mg base Tx.a_Record "move" 2 ["self", "begin"] (sd_Record_move Tx.ca)) : BodyD P w K TT cv mg base N_Hand_move "Hand.move" (defScope s_Hand_move) (defBody s_Hand_move) 3 (b_Hand_move Tx.ca) := by
  intro f cdv A outer s H E hcv hr
  have nd : (N_Hand_move).Nodup := sc_Hand_move.nd
  exact (pdss_cons (pds_asg (pd_mt Tx.cl_Hand F_Hand_hosted hr psD (pd_var 0 (pv 0)) (pda_cons (pd_var 1 (pv 1)) pda_nil)) (pdg_name (i := 3) nd rfl (by first | exact Or.inl rfl | exact Or.inr rfl)))
  (pdss_cons (pds_expr (pd_mt Tx.cl_Hand F_Hand_need_begin hr psD (pd_var 0 (pv 0)) (pda_cons (pd_var 2 (pv 2)) pda_nil)))
  (pdss_cons (pds_expr (pd_mt Tx.cl_Record F_Record_move hr psD (pd_fld Tx.cl_Hosted Tx.n_Hosted_record (pd_var 3 (pv 3))) (pda_cons (pd_var 2 (pv 2)) pda_nil)))
  (pdss_one (pds_ret (pd_mt Tx.cl_Hand F_Hand_lacking hr psD (pd_var 0 (pv 0)) (pda_cons (pd_var 1 (pv 1)) pda_nil)))))))
abbrev s_Hand_move_one : Stmt := inClass (top 38) 10
theorem sc_Hand_move_one : FnScope N_Hand_move_one ["self", "number", "k", "begin"] (defScope s_Hand_move_one) := ⟨rfl, rfl, rfl, by decide +kernel, rfl, by decide +kernel, by decide +kernel⟩
theorem bd_Hand_move_one {P : Program} {w : World} {K : PySem.W.Frag} {TT : List (Addr × Str)} {cv : Value → Prop} {mg : Str → Option Value} {base : Heap} (Tx : Txt K mg) (F_is_between : Fn P w (K, TT) mg base "is_between" 1 ["part", "low", "high"] Pl.sd_is_between) (F_Hand_hosted : Mt P w (K, TT) mg base Tx.a_Hand "hosted" 2 ["self", "number"] (sd_Hand_hosted Tx.ca)) (F_Hand_lacking : Mt P w (K, TT) mg base Tx.a_Hand "lacking" 3 ["self", "number"] (sd_Hand_lacking Tx.ca)) (F_Hand_need_begin : Mt P w (K, TT) mg base Tx.a_Hand "need_begin" 2 ["self", "begin"] (sd_Hand_need_begin Tx.ca)) (F_Record_move_one : Mt P w (K, TT) mg base Tx.a_Record "move_one" 4 ["self", "k", "begin"] (sd_Record_move_one Tx.ca)) : BodyD P w K TT cv mg base N_Hand_move_one "Hand.move_one" (defScope s_Hand_move_one) (defBody s_Hand_move_one) 4 (b_Hand_move_one Tx.ca) := by
  intro f cdv A outer s H E hcv hr
  have nd : (N_Hand_move_one).Nodup := sc_Hand_move_one.nd
  exact (pdss_cons (pds_asg (pd_mt Tx.cl_Hand F_Hand_hosted hr psD (pd_var 0 (pv 0)) (pda_cons (pd_var 1 (pv 1)) pda_nil)) (pdg_name (i := 4) nd rfl (by first | exact Or.inl rfl | exact Or.inr rfl)))
  (pdss_cons (pds_if (pdt_not (pdt_val (pd_fn F_is_between hr psD (pda_cons (pd_var 2 (pv 2)) (pda_cons pd_int (pda_cons (pd_bin od_sub (pd_sub (ixd (hu_of hr)) (pd_fld Tx.cl_Record Tx.n_Record_plan (pd_fld Tx.cl_Hosted Tx.n_Hosted_record (pd_var 4 (pv 4)))) pd_int) pd_int) pda_nil)))))) (pdss_one (pds_raise Tx.e_NoMeeting tkD)) pdss_nil)
  (pdss_cons (pds_if (pdt_cp od_notN (pd_var 3 (pv 3)) pd_non) (pdss_one (pds_expr (pd_mt Tx.cl_Hand F_Hand_need_begin hr psD (pd_var 0 (pv 0)) (pda_cons (pd_var 3 (pv 3)) pda_nil)))) pdss_nil)
  (pdss_cons (pds_expr (pd_mt Tx.cl_Record F_Record_move_one hr psD (pd_fld Tx.cl_Hosted Tx.n_Hosted_record (pd_var 4 (pv 4))) (pda_cons (pd_var 2 (pv 2)) (pda_cons (pd_var 3 (pv 3)) pda_nil))))
  (pdss_one (pds_ret (pd_mt Tx.cl_Hand F_Hand_lacking hr psD (pd_var 0 (pv 0)) (pda_cons (pd_var 1 (pv 1)) pda_nil))))))))
abbrev s_Hand_rename : Stmt := inClass (top 38) 11
theorem sc_Hand_rename : FnScope N_Hand_rename ["self", "number", "text"] (defScope s_Hand_rename) := ⟨rfl, rfl, rfl, by decide +kernel, rfl, by decide +kernel, by decide +kernel⟩
theorem bd_Hand_rename {P : Program} {w : World} {K : PySem.W.Frag} {TT : List (Addr × Str)} {cv : Value → Prop} {mg : Str → Option Value} {base : Heap} (Tx : Txt K mg) (F_is_name : Fn P w (K, TT) mg base "is_name" 1 ["text"] sd_is_name) (F_Hand_hosted : Mt P w (K, TT) mg base Tx.a_Hand "hosted" 2 ["self", "number"] (sd_Hand_hosted Tx.ca)) (F_Hand_lacking : Mt P w (K, TT) mg base Tx.a_Hand "lacking" 3 ["self", "number"] (sd_Hand_lacking Tx.ca)) (F_Record_grow : Mt P w (K, TT) mg base Tx.a_Record "grow" 1 ["self"] (sd_Record_grow Tx.ca)) : BodyD P w K TT cv mg base N_Hand_rename "Hand.rename" (defScope s_Hand_rename) (defBody s_Hand_rename) 3 (b_Hand_rename Tx.ca) := by
  intro f cdv A outer s H E hcv hr
  have nd : (N_Hand_rename).Nodup := sc_Hand_rename.nd
  exact (pdss_cons (pds_asg (pd_mt Tx.cl_Hand F_Hand_hosted hr psD (pd_var 0 (pv 0)) (pda_cons (pd_var 1 (pv 1)) pda_nil)) (pdg_name (i := 3) nd rfl (by first | exact Or.inl rfl | exact Or.inr rfl)))
  (pdss_cons (pds_if (pdt_not (pdt_val (pd_fn F_is_name hr psD (pda_cons (pd_var 2 (pv 2)) pda_nil)))) (pdss_one (pds_raise Tx.e_BadWord tkD)) pdss_nil)
  (pdss_cons (pds_fld Tx.cl_Record Tx.n_Record_note (pd_fld Tx.cl_Hosted Tx.n_Hosted_record (pd_var 3 (pv 3))) (pd_var 2 (pv 2)))
  (pdss_cons (pds_expr (pd_mt0 Tx.cl_Record F_Record_grow hr psD (pd_fld Tx.cl_Hosted Tx.n_Hosted_record (pd_var 3 (pv 3)))))
  (pdss_one (pds_ret (pd_mt Tx.cl_Hand F_Hand_lacking hr psD (pd_var 0 (pv 0)) (pda_cons (pd_var 1 (pv 1)) pda_nil))))))))
abbrev s_Hand_call_off : Stmt := inClass (top 38) 12
theorem sc_Hand_call_off : FnScope N_Hand_call_off ["self", "number"] (defScope s_Hand_call_off) := ⟨rfl, rfl, rfl, by decide +kernel, rfl, by decide +kernel, by decide +kernel⟩
theorem bd_Hand_call_off {P : Program} {w : World} {K : PySem.W.Frag} {TT : List (Addr × Str)} {cv : Value → Prop} {mg : Str → Option Value} {base : Heap} (Tx : Txt K mg) (F_Hand_hosted : Mt P w (K, TT) mg base Tx.a_Hand "hosted" 2 ["self", "number"] (sd_Hand_hosted Tx.ca)) (F_Hand_lacking : Mt P w (K, TT) mg base Tx.a_Hand "lacking" 3 ["self", "number"] (sd_Hand_lacking Tx.ca)) (F_Record_grow : Mt P w (K, TT) mg base Tx.a_Record "grow" 1 ["self"] (sd_Record_grow Tx.ca)) : BodyD P w K TT cv mg base N_Hand_call_off "Hand.call_off" (defScope s_Hand_call_off) (defBody s_Hand_call_off) 3 (b_Hand_call_off Tx.ca) := by
  intro f cdv A outer s H E hcv hr
  have nd : (N_Hand_call_off).Nodup := sc_Hand_call_off.nd
  exact (pdss_cons (pds_asg (pd_mt Tx.cl_Hand F_Hand_hosted hr psD (pd_var 0 (pv 0)) (pda_cons (pd_var 1 (pv 1)) pda_nil)) (pdg_name (i := 2) nd rfl (by first | exact Or.inl rfl | exact Or.inr rfl)))
  (pdss_cons (pds_fld Tx.cl_Record Tx.n_Record_over (pd_fld Tx.cl_Hosted Tx.n_Hosted_record (pd_var 2 (pv 2))) pd_bl)
  (pdss_cons (pds_expr (pd_mt0 Tx.cl_Record F_Record_grow hr psD (pd_fld Tx.cl_Hosted Tx.n_Hosted_record (pd_var 2 (pv 2)))))
  (pdss_one (pds_ret (pd_mt Tx.cl_Hand F_Hand_lacking hr psD (pd_var 0 (pv 0)) (pda_cons (pd_var 1 (pv 1)) pda_nil)))))))
abbrev s_Hand_invite : Stmt := inClass (top 38) 13
theorem sc_Hand_invite : FnScope N_Hand_invite ["self", "number", "hand"] (defScope s_Hand_invite) := ⟨rfl, rfl, rfl, by decide +kernel, rfl, by decide +kernel, by decide +kernel⟩
theorem bd_Hand_invite {P : Program} {w : World} {K : PySem.W.Frag} {TT : List (Addr × Str)} {cv : Value → Prop} {mg : Str → Option Value} {base : Heap} (Tx : Txt K mg) (F_Hand_hosted : Mt P w (K, TT) mg base Tx.a_Hand "hosted" 2 ["self", "number"] (sd_Hand_hosted Tx.ca)) (F_Hand_lacking : Mt P w (K, TT) mg base Tx.a_Hand "lacking" 3 ["self", "number"] (sd_Hand_lacking Tx.ca)) (F_Hand_need_guest : Mt P w (K, TT) mg base Tx.a_Hand "need_guest" 3 ["self", "hand"] (sd_Hand_need_guest Tx.ca)) (F_Hosted_add : Mt P w (K, TT) mg base Tx.a_Hosted "add" 7 ["self", "hand", "by"] (sd_Hosted_add Tx.ca 2)) (F_Record_hands : Mt P w (K, TT) mg base Tx.a_Record "hands" 1 ["self"] (sd_Record_hands Tx.ca)) : BodyD P w K TT cv mg base N_Hand_invite "Hand.invite" (defScope s_Hand_invite) (defBody s_Hand_invite) 7 (b_Hand_invite Tx.ca) := by
  intro f cdv A outer s H E hcv hr
  have nd : (N_Hand_invite).Nodup := sc_Hand_invite.nd
  exact (pdss_cons (pds_asg (pd_mt Tx.cl_Hand F_Hand_hosted hr psD (pd_var 0 (pv 0)) (pda_cons (pd_var 1 (pv 1)) pda_nil)) (pdg_name (i := 3) nd rfl (by first | exact Or.inl rfl | exact Or.inr rfl)))
  (pdss_cons (pds_expr (pd_mt Tx.cl_Hand F_Hand_need_guest hr psD (pd_var 0 (pv 0)) (pda_cons (pd_var 2 (pv 2)) pda_nil)))
  (pdss_cons (pds_if (pdt_cp (od_in (hu_of hr)) (pd_var 2 (pv 2)) (pd_mt0 Tx.cl_Record F_Record_hands hr psD (pd_fld Tx.cl_Hosted Tx.n_Hosted_record (pd_var 3 (pv 3))))) (pdss_one (pds_raise Tx.e_BadHand tkD)) pdss_nil)
  (pdss_cons (pds_expr (pd_mt Tx.cl_Hosted F_Hosted_add hr psD (pd_var 3 (pv 3)) (pda_cons (pd_var 2 (pv 2)) (pda_cons pd_non pda_nil))))
  (pdss_one (pds_ret (pd_mt Tx.cl_Hand F_Hand_lacking hr psD (pd_var 0 (pv 0)) (pda_cons (pd_var 1 (pv 1)) pda_nil))))))))
abbrev s_Hand_uninvite : Stmt := inClass (top 38) 14
theorem sc_Hand_uninvite : FnScope N_Hand_uninvite ["self", "number", "hand"] (defScope s_Hand_uninvite) := ⟨rfl, rfl, rfl, by decide +kernel, rfl, by decide +kernel, by decide +kernel⟩
theorem bd_Hand_uninvite {P : Program} {w : World} {K : PySem.W.Frag} {TT : List (Addr × Str)} {cv : Value → Prop} {mg : Str → Option Value} {base : Heap} (Tx : Txt K mg) (F_Hand_hosted : Mt P w (K, TT) mg base Tx.a_Hand "hosted" 2 ["self", "number"] (sd_Hand_hosted Tx.ca)) (F_Hand_lacking : Mt P w (K, TT) mg base Tx.a_Hand "lacking" 3 ["self", "number"] (sd_Hand_lacking Tx.ca)) (F_Hand_need_guest : Mt P w (K, TT) mg base Tx.a_Hand "need_guest" 3 ["self", "hand"] (sd_Hand_need_guest Tx.ca)) (F_Record_drop : Mt P w (K, TT) mg base Tx.a_Record "drop" 2 ["self", "hand"] (sd_Record_drop Tx.ca)) (F_Record_hands : Mt P w (K, TT) mg base Tx.a_Record "hands" 1 ["self"] (sd_Record_hands Tx.ca)) : BodyD P w K TT cv mg base N_Hand_uninvite "Hand.uninvite" (defScope s_Hand_uninvite) (defBody s_Hand_uninvite) 3 (b_Hand_uninvite Tx.ca) := by
  intro f cdv A outer s H E hcv hr
  have nd : (N_Hand_uninvite).Nodup := sc_Hand_uninvite.nd
  exact (pdss_cons (pds_asg (pd_mt Tx.cl_Hand F_Hand_hosted hr psD (pd_var 0 (pv 0)) (pda_cons (pd_var 1 (pv 1)) pda_nil)) (pdg_name (i := 3) nd rfl (by first | exact Or.inl rfl | exact Or.inr rfl)))
  (pdss_cons (pds_expr (pd_mt Tx.cl_Hand F_Hand_need_guest hr psD (pd_var 0 (pv 0)) (pda_cons (pd_var 2 (pv 2)) pda_nil)))
  (pdss_cons (pds_if (pdt_cp (od_notIn (hu_of hr)) (pd_var 2 (pv 2)) (pd_mt0 Tx.cl_Record F_Record_hands hr psD (pd_fld Tx.cl_Hosted Tx.n_Hosted_record (pd_var 3 (pv 3))))) (pdss_one (pds_raise Tx.e_BadHand tkD)) pdss_nil)
  (pdss_cons (pds_expr (pd_mt Tx.cl_Record F_Record_drop hr psD (pd_fld Tx.cl_Hosted Tx.n_Hosted_record (pd_var 3 (pv 3))) (pda_cons (pd_var 2 (pv 2)) pda_nil)))
  (pdss_one (pds_ret (pd_mt Tx.cl_Hand F_Hand_lacking hr psD (pd_var 0 (pv 0)) (pda_cons (pd_var 1 (pv 1)) pda_nil))))))))
abbrev s_rows_of : Stmt := top 21
theorem sc_rows_of : FnScope N_rows_of ["plan", "ones"] (defScope s_rows_of) := ⟨rfl, rfl, rfl, by decide +kernel, rfl, by decide +kernel, by decide +kernel⟩
theorem bd_rows_of {P : Program} {w : World} {K : PySem.W.Frag} {TT : List (Addr × Str)} {cv : Value → Prop} {mg : Str → Option Value} {base : Heap} (Tx : Txt K mg) (F_change_of : Fn P w (K, TT) mg base "change_of" 1 ["ones", "k"] Pl.sd_change_of) : BodyD P w K TT cv mg base N_rows_of "rows_of" (defScope s_rows_of) (defBody s_rows_of) 1 b_rows_of' := by
  intro f cdv A outer s H E hcv hr
  have nd : (N_rows_of).Nodup := sc_rows_of.nd
  exact (pdss_cons (pds_asg (pd_var 0 (pv 0)) (pdg_tup rfl (pdgs_cons (pdg_name (i := 2) nd rfl (by first | exact Or.inl rfl | exact Or.inr rfl)) (pdgs_cons (pdg_name (i := 3) nd rfl (by first | exact Or.inl rfl | exact Or.inr rfl)) (pdgs_cons (pdg_name (i := 4) nd rfl (by first | exact Or.inl rfl | exact Or.inr rfl)) (pdgs_cons (pdg_name (i := 5) nd rfl (by first | exact Or.inl rfl | exact Or.inr rfl)) pdgs_nil))))))
  (pdss_cons (pds_asg (pd_lst pda_nil) (pdg_name (i := 6) nd rfl (by first | exact Or.inl rfl | exact Or.inr rfl)))
  (pdss_cons (pds_for poD rfl (pdi_range1 rfl Tx.f_range (pd_var 5 (pv 5))) (pdg_name (i := 7) nd rfl (by first | exact Or.inl rfl | exact Or.inr rfl)) (pdss_cons (pds_asg (pd_fn F_change_of hr psD (pda_cons (pd_var 1 (pv 1)) (pda_cons (pd_var 7 (pv 7)) pda_nil))) (pdg_tup rfl (pdgs_cons (pdg_name (i := 8) nd rfl (by first | exact Or.inl rfl | exact Or.inr rfl)) (pdgs_cons (pdg_name (i := 9) nd rfl (by first | exact Or.inl rfl | exact Or.inr rfl)) pdgs_nil))))
  (pdss_one (pds_expr (pd_bm PySem.F.plainAttrs_list PySem.F.slot_list_append PySem.F.type_list_append md_append (pd_var 6 (pv 6)) (pda_cons (pd_tup (pda_cons (pd_var 7 (pv 7)) (pda_cons (pd_if (pdt_cp (od_eq hr.units) (pd_var 8 (pv 8)) pd_int) (pd_bin od_addF (pd_var 2 (pv 2)) (pd_bin od_mulF (pd_var 7 (pv 7)) (pd_var 4 (pv 4)))) (pd_var 9 (pv 9))) (pda_cons (pd_var 8 (pv 8)) pda_nil)))) pda_nil))))))
  (pdss_one (pds_ret (pd_var 6 (pv 6)))))))
abbrev s_Record_rows : Stmt := inClass (top 32) 10
theorem sc_Record_rows : FnScope N_Record_rows ["self"] (defScope s_Record_rows) := ⟨rfl, rfl, rfl, by decide +kernel, rfl, by decide +kernel, by decide +kernel⟩
theorem bd_Record_rows {P : Program} {w : World} {K : PySem.W.Frag} {TT : List (Addr × Str)} {cv : Value → Prop} {mg : Str → Option Value} {base : Heap} (Tx : Txt K mg) (F_rows_of : Fn P w (K, TT) mg base "rows_of" 2 ["plan", "ones"] Pl.sd_rows_of') : BodyD P w K TT cv mg base N_Record_rows "Record.rows" (defScope s_Record_rows) (defBody s_Record_rows) 2 (b_Record_rows' Tx.ca) := by
  intro f cdv A outer s H E hcv hr
  have nd : (N_Record_rows).Nodup := sc_Record_rows.nd
  exact (pdss_one (pds_ret (pd_fn F_rows_of hr psD (pda_cons (pd_fld Tx.cl_Record Tx.n_Record_plan (pd_var 0 (pv 0))) (pda_cons (pd_fld Tx.cl_Record Tx.n_Record_ones (pd_var 0 (pv 0))) pda_nil)))))
abbrev s_Record_told : Stmt := inClass (top 32) 11
theorem sc_Record_told : FnScope N_Record_told ["self", "host", "number", "me", "mine"] (defScope s_Record_told) := ⟨rfl, rfl, rfl, by decide +kernel, rfl, by decide +kernel, by decide +kernel⟩
theorem bd_Record_told {P : Program} {w : World} {K : PySem.W.Frag} {TT : List (Addr × Str)} {cv : Value → Prop} {mg : Str → Option Value} {base : Heap} (Tx : Txt K mg) (F_words_of : Fn P w (K, TT) mg base "words_of" 3 ["say", "version", "ones", "many"] sd_words_of) (F_Record_rows : Mt P w (K, TT) mg base Tx.a_Record "rows" 3 ["self"] (sd_Record_rows' Tx.ca)) (F_Record_say_of : Mt P w (K, TT) mg base Tx.a_Record "say_of" 1 ["self", "hand"] (sd_Record_say_of Tx.ca)) : BodyD P w K TT cv mg base N_Record_told "Record.told" (defScope s_Record_told) (defBody s_Record_told) 3 (b_Record_told' Tx.ca) := by
  intro f cdv A outer s H E hcv hr
  have nd : (N_Record_told).Nodup := sc_Record_told.nd
  exact (pdss_cons (pds_asg (pd_lst pda_nil) (pdg_name (i := 5) nd rfl (by first | exact Or.inl rfl | exact Or.inr rfl)))
  (pdss_cons (pds_for poD rfl (pdi_seq (pd_fld Tx.cl_Record Tx.n_Record_guests (pd_var 0 (pv 0)))) (pdg_tup rfl (pdgs_cons (pdg_name (i := 6) nd rfl (by first | exact Or.inl rfl | exact Or.inr rfl)) (pdgs_cons (pdg_name (i := 7) nd rfl (by first | exact Or.inl rfl | exact Or.inr rfl)) pdgs_nil))) (pdss_cons (pds_asg (pd_if (pdt_cp (od_eq hr.units) (pd_var 6 (pv 6)) (pd_var 3 (pv 3))) (pd_var 4 (pv 4)) (pd_mt Tx.cl_Record F_Record_say_of hr psD (pd_var 0 (pv 0)) (pda_cons (pd_var 6 (pv 6)) pda_nil))) (pdg_name (i := 8) nd rfl (by first | exact Or.inl rfl | exact Or.inr rfl)))
  (pdss_one (pds_expr (pd_bm PySem.F.plainAttrs_list PySem.F.slot_list_append PySem.F.type_list_append md_append (pd_var 5 (pv 5)) (pda_cons (pd_tup (pda_cons (pd_var 6 (pv 6)) (pda_cons (pd_var 7 (pv 7)) (pda_cons (pd_fn F_words_of hr psD (pda_cons (pd_var 8 (pv 8)) (pda_cons (pd_fld Tx.cl_Record Tx.n_Record_version (pd_var 0 (pv 0))) (pda_cons (pd_fld Tx.cl_Record Tx.n_Record_ones (pd_var 0 (pv 0))) (pda_cons (pd_sub (ixd (hu_of hr)) (pd_fld Tx.cl_Record Tx.n_Record_plan (pd_var 0 (pv 0))) pd_int) pda_nil))))) pda_nil)))) pda_nil))))))
  (pdss_one (pds_ret (pd_tup (pda_cons (pd_var 1 (pv 1)) (pda_cons (pd_var 2 (pv 2)) (pda_cons (pd_fld Tx.cl_Record Tx.n_Record_version (pd_var 0 (pv 0))) (pda_cons (pd_fld Tx.cl_Record Tx.n_Record_note (pd_var 0 (pv 0))) (pda_cons (pd_sub (ixd (hu_of hr)) (pd_fld Tx.cl_Record Tx.n_Record_plan (pd_var 0 (pv 0))) pd_int) (pda_cons (pd_mt0 Tx.cl_Record F_Record_rows hr psD (pd_var 0 (pv 0))) (pda_cons (pd_var 5 (pv 5)) pda_nil))))))))))))
abbrev s_Hand_book : Stmt := inClass (top 38) 24
theorem sc_Hand_book : FnScope N_Hand_book ["self"] (defScope s_Hand_book) := ⟨rfl, rfl, rfl, by decide +kernel, rfl, by decide +kernel, by decide +kernel⟩
theorem bd_Hand_book {P : Program} {w : World} {K : PySem.W.Frag} {TT : List (Addr × Str)} {mg : Str → Option Value} {base : Heap} (Tx : Txt K mg) (F_Record_hands : Mt P w (K, TT) mg base Tx.a_Record "hands" 1 ["self"] (sd_Record_hands Tx.ca)) (F_Record_told : Mt P w (K, TT) mg base Tx.a_Record "told" 4 ["self", "host", "number", "me", "mine"] (sd_Record_told' Tx.ca)) {c PA : Addr} (TB : LamX.TabB base mg c PA) (hmT : (PA, ("Hand.book" : Str) ++ ".<locals>." ++ "<lambda>") ∈ TT) (huT : ∀ q ∈ TT, q.1 = PA → q.2 = ("Hand.book" : Str) ++ ".<locals>." ++ "<lambda>") : BodyD P w K TT (fun v => v = .ref c) mg base N_Hand_book "Hand.book" (defScope s_Hand_book) (defBody s_Hand_book) 4 (b_Hand_book' Tx.ca) := by
  intro f cdv A outer s H E hcv hr
  have nd : (N_Hand_book).Nodup := sc_Hand_book.nd
  have hcode : cdv = .ref c := hcv
  subst hcode
  exact (pdss_cons (pds_asg (pd_lst pda_nil) (pdg_name (i := 1) nd rfl (by first | exact Or.inl rfl | exact Or.inr rfl)))
  (pdss_cons (pds_for poD rfl (pdi_enum rfl Tx.f_enumerate (pd_fld Tx.cl_Hand Tx.n_Hand_own (pd_var 0 (pv 0)))) (pdg_tup rfl (pdgs_cons (pdg_name (i := 2) nd rfl (by first | exact Or.inl rfl | exact Or.inr rfl)) (pdgs_cons (pdg_name (i := 3) nd rfl (by first | exact Or.inl rfl | exact Or.inr rfl)) pdgs_nil))) (pdss_one (pds_if (pdt_not (pdt_val (pd_fld Tx.cl_Record Tx.n_Record_over (pd_fld Tx.cl_Hosted Tx.n_Hosted_record (pd_var 3 (pv 3)))))) (pdss_one (pds_expr (pd_bm PySem.F.plainAttrs_list PySem.F.slot_list_append PySem.F.type_list_append md_append (pd_var 1 (pv 1)) (pda_cons (pd_mt Tx.cl_Record F_Record_told hr psD (pd_fld Tx.cl_Hosted Tx.n_Hosted_record (pd_var 3 (pv 3))) (pda_cons (pd_fld Tx.cl_Hand Tx.n_Hand_me (pd_var 0 (pv 0))) (pda_cons (pd_var 2 (pv 2)) (pda_cons pd_non (pda_cons (pd_glob (by rfl) Tx.c_NOTHING) pda_nil))))) pda_nil)))) pdss_nil)))
  (pdss_cons (pds_for poD rfl (pdi_seq (pd_blt (cd_sortDT rfl hr.units) Tx.f_sorted (by decide +kernel) (pda_cons (pd_fld Tx.cl_Hand Tx.n_Hand_calls (pd_var 0 (pv 0))) pda_nil))) (pdg_tup rfl (pdgs_cons (pdg_name (i := 4) nd rfl (by first | exact Or.inl rfl | exact Or.inr rfl)) (pdgs_cons (pdg_name (i := 2) nd rfl (by first | exact Or.inl rfl | exact Or.inr rfl)) pdgs_nil))) (pdss_cons (pds_asg (pd_sub (ixd (hu_of hr)) (pd_fld Tx.cl_Hand Tx.n_Hand_calls (pd_var 0 (pv 0))) (pd_key (pda_cons (pd_var 4 (pv 4)) (pda_cons (pd_var 2 (pv 2)) pda_nil)))) (pdg_name (i := 5) nd rfl (by first | exact Or.inl rfl | exact Or.inr rfl)))
  (pdss_one (pds_if (PDW.pdt (pdw_and (pdt_cp od_notN (pd_fld Tx.cl_Record Tx.n_Record_record (pd_var 5 (pv 5))) pd_non) (pdw_and (pdt_not (pdt_val (pd_fld Tx.cl_Record Tx.n_Record_over (pd_fld Tx.cl_Record Tx.n_Record_record (pd_var 5 (pv 5)))))) (pdw_and1 (pdt_cp (od_in (hu_of hr)) (pd_fld Tx.cl_Hand Tx.n_Hand_me (pd_var 0 (pv 0))) (pd_mt0 Tx.cl_Record F_Record_hands hr psD (pd_fld Tx.cl_Record Tx.n_Record_record (pd_var 5 (pv 5))))))))) (pdss_one (pds_expr (pd_bm PySem.F.plainAttrs_list PySem.F.slot_list_append PySem.F.type_list_append md_append (pd_var 1 (pv 1)) (pda_cons (pd_mt Tx.cl_Record F_Record_told hr psD (pd_fld Tx.cl_Record Tx.n_Record_record (pd_var 5 (pv 5))) (pda_cons (pd_var 4 (pv 4)) (pda_cons (pd_var 2 (pv 2)) (pda_cons (pd_fld Tx.cl_Hand Tx.n_Hand_me (pd_var 0 (pv 0))) (pda_cons (pd_fld Tx.cl_Record Tx.n_Record_say (pd_var 5 (pv 5))) pda_nil))))) pda_nil)))) pdss_nil))))
  (pdss_one (pds_ret (pd_sortG (j := 0) (x := "row") keyII encII_alike encII_sort encII_depth kII_tl TB rfl hmT huT (lam1_by (by decide +kernel)) rfl (fun _ _ _ _ => rfl) (hr.mono (by decide)) Tx.f_sorted (pd_var 1 (pv 1))))))))
abbrev s_Hosted_take : Stmt := inClass (top 37) 2
theorem sc_Hosted_take : FnScope N_Hosted_take ["self", "hand"] (defScope s_Hosted_take) := ⟨rfl, rfl, rfl, by decide +kernel, rfl, by decide +kernel, by decide +kernel⟩
theorem bd_Hosted_take {P : Program} {w : World} {K : PySem.W.Frag} {k : Nat} {TT : List (Addr × Str)} {cv : Value → Prop} {mg : Str → Option Value} {base : Heap} (Tx : Txt K mg) (F_Hosted_add : Mt P w (K, TT) mg base Tx.a_Hosted "add" (k + 5) ["self", "hand", "by"] (sd_Hosted_add Tx.ca k)) (F_Record_hear : Mt P w (K, TT) mg base Tx.a_Record "hear" 3 ["self", "hand", "say"] (sd_Record_hear Tx.ca)) (F_Record_say_of : Mt P w (K, TT) mg base Tx.a_Record "say_of" 1 ["self", "hand"] (sd_Record_say_of Tx.ca)) : BodyD P w K TT cv mg base N_Hosted_take "Hosted.take" (defScope s_Hosted_take) (defBody s_Hosted_take) (k + 5) (b_Hosted_take Tx.ca k) := by
  intro f cdv A outer s H E hcv hr
  have nd : (N_Hosted_take).Nodup := sc_Hosted_take.nd
  exact (pdss_cons (pds_asg (pd_get2 (hu_of hr) (pd_fld Tx.cl_Hosted Tx.n_Hosted_heard (pd_var 0 (pv 0))) (pd_var 1 (pv 1)) (pd_glob (by rfl) Tx.c_NOTHING) ⟨rfl, rfl, rfl, rfl⟩) (pdg_name (i := 2) nd rfl (by first | exact Or.inl rfl | exact Or.inr rfl)))
  (pdss_cons (pds_if (pdt_cp od_gt (pd_sub (ixd (hu_of hr)) (pd_var 2 (pv 2)) pd_int) (pd_sub (ixd (hu_of hr)) (pd_mt Tx.cl_Record F_Record_say_of hr psD (pd_fld Tx.cl_Hosted Tx.n_Hosted_record (pd_var 0 (pv 0))) (pda_cons (pd_var 1 (pv 1)) pda_nil) (by omega)) pd_int)) (pdss_one (pds_expr (pd_mt Tx.cl_Record F_Record_hear hr psD (pd_fld Tx.cl_Hosted Tx.n_Hosted_record (pd_var 0 (pv 0))) (pda_cons (pd_var 1 (pv 1)) (pda_cons (pd_var 2 (pv 2)) pda_nil)) (by omega)))) pdss_nil)
  (pdss_one (pds_if (pdt_cp od_notN (pd_sub (ixd (hu_of hr)) (pd_var 2 (pv 2)) pd_int) pd_non) (pdss_one (pds_expr (pd_mt Tx.cl_Hosted F_Hosted_add hr psD (pd_var 0 (pv 0)) (pda_cons (pd_sub (ixd (hu_of hr)) (pd_var 2 (pv 2)) pd_int) (pda_cons (pd_var 1 (pv 1)) pda_nil)) (by omega)))) pdss_nil))))
abbrev s_Hosted_add : Stmt := inClass (top 37) 3
theorem sc_Hosted_add : FnScope N_Hosted_add ["self", "hand", "by"] (defScope s_Hosted_add) := ⟨rfl, rfl, rfl, by decide +kernel, rfl, by decide +kernel, by decide +kernel⟩
theorem bd_Hosted_add {P : Program} {w : World} {K : PySem.W.Frag} {k : Nat} {TT : List (Addr × Str)} {cv : Value → Prop} {mg : Str → Option Value} {base : Heap} (Tx : Txt K mg) (F_Hosted_take : Mt P w (K, TT) mg base Tx.a_Hosted "take" (k + 5) ["self", "hand"] (sd_Hosted_take Tx.ca k)) (F_Record_add : Mt P w (K, TT) mg base Tx.a_Record "add" 4 ["self", "hand", "by", "say"] (sd_Record_add Tx.ca)) (F_Record_hands : Mt P w (K, TT) mg base Tx.a_Record "hands" 1 ["self"] (sd_Record_hands Tx.ca)) : BodyD P w K TT cv mg base N_Hosted_add "Hosted.add" (defScope s_Hosted_add) (defBody s_Hosted_add) (k + 5) (b_Hosted_add Tx.ca k) := by
  intro f cdv A outer s H E hcv hr
  have nd : (N_Hosted_add).Nodup := sc_Hosted_add.nd
  exact (pdss_one (pds_if (pdt_cp (od_notIn (hu_of hr)) (pd_var 1 (pv 1)) (pd_mt0 Tx.cl_Record F_Record_hands hr psD (pd_fld Tx.cl_Hosted Tx.n_Hosted_record (pd_var 0 (pv 0))) (by omega))) (pdss_cons (pds_expr (pd_mt Tx.cl_Record F_Record_add hr psD (pd_fld Tx.cl_Hosted Tx.n_Hosted_record (pd_var 0 (pv 0))) (pda_cons (pd_var 1 (pv 1)) (pda_cons (pd_var 2 (pv 2)) (pda_cons (pd_glob (by rfl) Tx.c_NOTHING) pda_nil))) (by omega)))
  (pdss_cons (pds_expr (pd_setd (pd_fld Tx.cl_Hosted Tx.n_Hosted_known (pd_var 0 (pv 0))) (pd_var 1 (pv 1)) pd_int ⟨rfl, rfl, rfl, rfl⟩))
  (pdss_one (pds_expr (pd_mt Tx.cl_Hosted F_Hosted_take hr psD (pd_var 0 (pv 0)) (pda_cons (pd_var 1 (pv 1)) pda_nil) (by omega)))))) pdss_nil))
end K03
/-! ### k03: the law's own defs keep their readings -/
namespace K03
open PySem PySem.Spec PyProof.Rows L2 Cc Pl Hd Lw
abbrev s__law_dice : Stmt := top 40
theorem sc__law_dice : FnScope N__law_dice ["_law_script", "_law_k"] (defScope s__law_dice) := ⟨rfl, rfl, rfl, by decide +kernel, rfl, by decide +kernel, by decide +kernel⟩
theorem bd__law_dice {P : Program} {w : World} {K : PySem.W.Frag} {TT : List (Addr × Str)} {cv : Value → Prop} {mg : Str → Option Value} {base : Heap} (Tx : Txt K mg) : BodyD P w K TT cv mg base N__law_dice "_law_dice" (defScope s__law_dice) (defBody s__law_dice) 0 b__law_dice := by
  intro f cdv A outer s H E hcv hr
  have nd : (N__law_dice).Nodup := sc__law_dice.nd
  exact (pdss_cons (pds_asg (pd_var 1 (pv 1)) (pdg_name (i := 2) nd rfl (by first | exact Or.inl rfl | exact Or.inr rfl)))
  (pdss_cons (pds_for poD rfl (pdi_seq (pd_var 0 (pv 0))) (pdg_name (i := 3) nd rfl (by first | exact Or.inl rfl | exact Or.inr rfl)) (pdss_one (pds_asg (pd_bin od_mod (pd_bin od_add (pd_bin od_mul (pd_var 2 (pv 2)) pd_int) (pd_blt cd_abs Tx.f_abs (by decide +kernel) (pda_cons (pd_var 3 (pv 3)) pda_nil))) pd_int) (pdg_name (i := 2) nd rfl (by first | exact Or.inl rfl | exact Or.inr rfl)))))
  (pdss_one (pds_ret (pd_bin od_add (pd_lst (pda_cons (pd_var 2 (pv 2)) (pda_cons pd_int pda_nil))) (pd_lc (own := [("_law_cell", 3)]) rfl nd (pdi_seq (pd_var 0 (pv 0))) (blkOk_by (own := [("_law_cell", 3)]) (N := N__law_dice) (sc := defScope s__law_dice) (by decide +kernel)) (blk_name (i := 3) (by decide) (fun _ _ _ _ _ => pg_name (i := 3) nd rfl (by first | exact Or.inl rfl | exact Or.inr rfl)) (fun _ _ _ _ _ => (pdts_one (pdt_cp od_ge (pd_var 3 (pv 3)) (pd_bin od_pow pd_int pd_int)))) (fun _ _ _ _ _ => (pd_var 3 (pv 3))))))))))
abbrev s__law_off : Stmt := top 41
theorem sc__law_off : FnScope N__law_off ["_law_d", "_law_most"] (defScope s__law_off) := ⟨rfl, rfl, rfl, by decide +kernel, rfl, by decide +kernel, by decide +kernel⟩
theorem bd__law_off {P : Program} {w : World} {K : PySem.W.Frag} {TT : List (Addr × Str)} {cv : Value → Prop} {mg : Str → Option Value} {base : Heap} (Tx : Txt K mg) : BodyD P w K TT cv mg base N__law_off "_law_off" (defScope s__law_off) (defBody s__law_off) 0 b__law_off := by
  intro f cdv A outer s H E hcv hr
  have nd : (N__law_off).Nodup := sc__law_off.nd
  exact (pdss_cons (pds_if (PDW.pdt (pdw_and (pdt_cp (od_eq hr.units) (pd_sub (ixd (hu_of hr)) (pd_var 0 (pv 0)) pd_int) pd_int) (pdw_and1 (pdt_cp od_gt (pd_blt cd_len Tx.f_len (by decide +kernel) (pda_cons (pd_var 0 (pv 0)) pda_nil)) pd_int)))) (pdss_one (pds_asg (pd_bm PySem.F.plainAttrs_list PySem.F.slot_list_pop PySem.F.type_list_pop md_popAt (pd_var 0 (pv 0)) (pda_cons pd_int pda_nil)) (pdg_sub set_listD.1 set_listD.2 (pd_var 0 (pv 0)) pd_int))) pdss_nil)
  (pdss_cons (pds_if (pdt_cp od_gt (pd_sub (ixd (hu_of hr)) (pd_var 0 (pv 0)) pd_int) pd_int) (pdss_cons (pds_asg (pd_bin od_mod (pd_sub (ixd (hu_of hr)) (pd_var 0 (pv 0)) pd_int) (pd_var 1 (pv 1))) (pdg_name (i := 2) nd rfl (by first | exact Or.inl rfl | exact Or.inr rfl)))
  (pdss_cons (pds_asg (pd_bin od_fdiv (pd_sub (ixd (hu_of hr)) (pd_var 0 (pv 0)) pd_int) (pd_var 1 (pv 1))) (pdg_sub set_listD.1 set_listD.2 (pd_var 0 (pv 0)) pd_int))
  (pdss_one (pds_ret (pd_var 2 (pv 2)))))) pdss_nil)
  (pdss_cons (pds_asg (pd_bin od_mod (pd_bin od_add (pd_bin od_mul (pd_sub (ixd (hu_of hr)) (pd_var 0 (pv 0)) pd_int) pd_int) pd_int) pd_int) (pdg_sub set_listD.1 set_listD.2 (pd_var 0 (pv 0)) pd_int))
  (pdss_one (pds_ret (pd_bin od_mod (pd_bin od_fdiv (pd_sub (ixd (hu_of hr)) (pd_var 0 (pv 0)) pd_int) pd_int) (pd_var 1 (pv 1))))))))
abbrev s__law_alike : Stmt := top 42
theorem sc__law_alike : FnScope N__law_alike ["_law_found", "_law_due"] (defScope s__law_alike) := ⟨rfl, rfl, rfl, by decide +kernel, rfl, by decide +kernel, by decide +kernel⟩
theorem bd__law_alike {P : Program} {w : World} {K : PySem.W.Frag} {TT : List (Addr × Str)} {cv : Value → Prop} {mg : Str → Option Value} {base : Heap} (Tx : Txt K mg) {k : Nat} (F__law_alike : Fn P w (K, TT) mg base "_law_alike" k ["_law_found", "_law_due"] (sd__law_alike k)) : BodyD P w K TT cv mg base N__law_alike "_law_alike" (defScope s__law_alike) (defBody s__law_alike) k (b__law_alike k) := by
  intro f cdv A outer s H E hcv hr
  have nd : (N__law_alike).Nodup := sc__law_alike.nd
  exact (pdss_cons (pds_if (pdt_cp od_isN (pd_var 1 (pv 1)) pd_non) (pdss_one (pds_ret (pd_cp od_isN (pd_var 0 (pv 0)) pd_non))) pdss_nil)
  (pdss_cons (pds_if (pdt_val (pd_blt cd_isi Tx.f_isinstance (by decide +kernel) (pda_cons (pd_var 1 (pv 1)) (pda_cons (pd_ty Tx.f_bool (by decide +kernel)) pda_nil)))) (pdss_one (pds_ret (pd_and (pd_blt cd_isi Tx.f_isinstance (by decide +kernel) (pda_cons (pd_var 0 (pv 0)) (pda_cons (pd_ty Tx.f_bool (by decide +kernel)) pda_nil))) (pd_one (pd_cp (od_eq hr.units) (pd_var 0 (pv 0)) (pd_var 1 (pv 1))))))) pdss_nil)
  (pdss_cons (pds_if (pdt_val (pd_blt cd_isi Tx.f_isinstance (by decide +kernel) (pda_cons (pd_var 1 (pv 1)) (pda_cons (pd_ty Tx.f_int (by decide +kernel)) pda_nil)))) (pdss_one (pds_ret (pd_and (pd_blt cd_isi Tx.f_isinstance (by decide +kernel) (pda_cons (pd_var 0 (pv 0)) (pda_cons (pd_ty Tx.f_int (by decide +kernel)) pda_nil))) (pd_and (pd_not (pd_blt cd_isi Tx.f_isinstance (by decide +kernel) (pda_cons (pd_var 0 (pv 0)) (pda_cons (pd_ty Tx.f_bool (by decide +kernel)) pda_nil)))) (pd_one (pd_cp (od_eq hr.units) (pd_var 0 (pv 0)) (pd_var 1 (pv 1)))))))) pdss_nil)
  (pdss_cons (pds_if (pdt_val (pd_blt cd_isi Tx.f_isinstance (by decide +kernel) (pda_cons (pd_var 1 (pv 1)) (pda_cons (pd_ty Tx.f_str (by decide +kernel)) pda_nil)))) (pdss_one (pds_ret (pd_and (pd_blt cd_isi Tx.f_isinstance (by decide +kernel) (pda_cons (pd_var 0 (pv 0)) (pda_cons (pd_ty Tx.f_str (by decide +kernel)) pda_nil))) (pd_one (pd_cp (od_eq hr.units) (pd_var 0 (pv 0)) (pd_var 1 (pv 1))))))) pdss_nil)
  (pdss_cons (pds_if (PDW.pdt (pdw_or (pdt_cp (od_ne hr.units) (pd_blt cd_isi Tx.f_isinstance (by decide +kernel) (pda_cons (pd_var 1 (pv 1)) (pda_cons (pd_ty Tx.f_tuple (by decide +kernel)) pda_nil))) (pd_blt cd_isi Tx.f_isinstance (by decide +kernel) (pda_cons (pd_var 0 (pv 0)) (pda_cons (pd_ty Tx.f_tuple (by decide +kernel)) pda_nil)))) (pdw_or1 (pdt_cp (od_ne hr.units) (pd_blt cd_isi Tx.f_isinstance (by decide +kernel) (pda_cons (pd_var 1 (pv 1)) (pda_cons (pd_ty Tx.f_list (by decide +kernel)) pda_nil))) (pd_blt cd_isi Tx.f_isinstance (by decide +kernel) (pda_cons (pd_var 0 (pv 0)) (pda_cons (pd_ty Tx.f_list (by decide +kernel)) pda_nil))))))) (pdss_one (pds_ret pd_bl)) pdss_nil)
  (pdss_cons (pds_if (pdt_cp (od_ne hr.units) (pd_blt cd_len Tx.f_len (by decide +kernel) (pda_cons (pd_var 0 (pv 0)) pda_nil)) (pd_blt cd_len Tx.f_len (by decide +kernel) (pda_cons (pd_var 1 (pv 1)) pda_nil))) (pdss_one (pds_ret pd_bl)) pdss_nil)
  (pdss_one (pds_ret (pd_blt (cd_all rfl) Tx.f_all (by decide +kernel) (pda_cons (pd_lc (own := [("_law_k", 2)]) rfl nd (pdi_range1 rfl Tx.f_range (pd_blt cd_len Tx.f_len (by decide +kernel) (pda_cons (pd_var 1 (pv 1)) pda_nil))) (blkOk_by (own := [("_law_k", 2)]) (N := N__law_alike) (sc := defScope s__law_alike) (by decide +kernel)) (blk_name (i := 2) (by decide) (fun _ _ _ _ _ => pg_name (i := 2) nd rfl (by first | exact Or.inl rfl | exact Or.inr rfl)) (fun _ _ _ _ _ => pdts_nil) (fun _ _ _ _ _ => (pd_fn F__law_alike hr passN (pda_cons (pd_sub (ixd (hu_of hr)) (pd_var 0 (pv 0)) (pd_var 2 (pv 2))) (pda_cons (pd_sub (ixd (hu_of hr)) (pd_var 1 (pv 1)) (pd_var 2 (pv 2))) pda_nil)) (Nat.le_refl _))))) pda_nil))))))))))
abbrev s__law_mixed : Stmt := top 43
theorem sc__law_mixed : FnScope N__law_mixed ["_law_d", "_law_row"] (defScope s__law_mixed) := ⟨rfl, rfl, rfl, by decide +kernel, rfl, by decide +kernel, by decide +kernel⟩
theorem bd__law_mixed {P : Program} {w : World} {K : PySem.W.Frag} {TT : List (Addr × Str)} {cv : Value → Prop} {mg : Str → Option Value} {base : Heap} (Tx : Txt K mg) (F__law_off : Fn P w (K, TT) mg base "_law_off" 1 ["_law_d", "_law_most"] sd__law_off) : BodyD P w K TT cv mg base N__law_mixed "_law_mixed" (defScope s__law_mixed) (defBody s__law_mixed) 1 b__law_mixed := by
  intro f cdv A outer s H E hcv hr
  have nd : (N__law_mixed).Nodup := sc__law_mixed.nd
  exact (pdss_cons (pds_asg (pd_btt cd_list Tx.f_list (by decide +kernel) (pda_cons (pd_var 1 (pv 1)) pda_nil)) (pdg_name (i := 2) nd rfl (by first | exact Or.inl rfl | exact Or.inr rfl)))
  (pdss_cons (pds_asg (pd_lst pda_nil) (pdg_name (i := 3) nd rfl (by first | exact Or.inl rfl | exact Or.inr rfl)))
  (pdss_cons (pds_while poD (pdt_cp (od_neE hr.units) (pd_var 2 (pv 2)) (pd_lstF pda_nil)) (pdss_one (pds_expr (pd_bm PySem.F.plainAttrs_list PySem.F.slot_list_append PySem.F.type_list_append md_append (pd_var 3 (pv 3)) (pda_cons (pd_bm PySem.F.plainAttrs_list PySem.F.slot_list_pop PySem.F.type_list_pop md_popAt (pd_var 2 (pv 2)) (pda_cons (pd_fn F__law_off hr psD (pda_cons (pd_var 0 (pv 0)) (pda_cons (pd_blt cd_len Tx.f_len (by decide +kernel) (pda_cons (pd_var 2 (pv 2)) pda_nil)) pda_nil))) pda_nil)) pda_nil)))))
  (pdss_one (pds_frz 3 (pds_ret (pd_var 3 (pv 3))))))))
abbrev s__law_plan : Stmt := top 44
theorem sc__law_plan : FnScope N__law_plan ["_law_d"] (defScope s__law_plan) := ⟨rfl, rfl, rfl, by decide +kernel, rfl, by decide +kernel, by decide +kernel⟩
theorem bd__law_plan {P : Program} {w : World} {K : PySem.W.Frag} {TT : List (Addr × Str)} {cv : Value → Prop} {mg : Str → Option Value} {base : Heap} (Tx : Txt K mg) (F__law_off : Fn P w (K, TT) mg base "_law_off" 1 ["_law_d", "_law_most"] sd__law_off) : BodyD P w K TT cv mg base N__law_plan "_law_plan" (defScope s__law_plan) (defBody s__law_plan) 1 b__law_plan := by
  intro f cdv A outer s H E hcv hr
  have nd : (N__law_plan).Nodup := sc__law_plan.nd
  exact (pdss_cons (pds_asg (pd_sub (ixd (hu_of hr)) (pd_lstF (pda_cons pd_int (pda_cons (pd_bin od_addF pd_int (pd_fn F__law_off hr psD (pda_cons (pd_var 0 (pv 0)) (pda_cons pd_int pda_nil)))) (pda_cons (pd_bin od_addF pd_int (pd_fn F__law_off hr psD (pda_cons (pd_var 0 (pv 0)) (pda_cons pd_int pda_nil)))) pda_nil)))) (pd_fn F__law_off hr psD (pda_cons (pd_var 0 (pv 0)) (pda_cons pd_int pda_nil)))) (pdg_name (i := 1) nd rfl (by first | exact Or.inl rfl | exact Or.inr rfl)))
  (pdss_cons (pds_asg (pd_bin od_addF pd_int (pd_fn F__law_off hr psD (pda_cons (pd_var 0 (pv 0)) (pda_cons (pd_sub (ixd (hu_of hr)) (pd_lstF (pda_cons pd_int (pda_cons pd_int pda_nil))) (pd_fn F__law_off hr psD (pda_cons (pd_var 0 (pv 0)) (pda_cons pd_int pda_nil)))) pda_nil)))) (pdg_name (i := 2) nd rfl (by first | exact Or.inl rfl | exact Or.inr rfl)))
  (pdss_cons (pds_asg (pd_bin od_addF pd_int (pd_fn F__law_off hr psD (pda_cons (pd_var 0 (pv 0)) (pda_cons (pd_sub (ixd (hu_of hr)) (pd_lstF (pda_cons pd_int (pda_cons pd_int pda_nil))) (pd_fn F__law_off hr psD (pda_cons (pd_var 0 (pv 0)) (pda_cons pd_int pda_nil)))) pda_nil)))) (pdg_name (i := 3) nd rfl (by first | exact Or.inl rfl | exact Or.inr rfl)))
  (pdss_one (pds_ret (pd_tup (pda_cons (pd_fn F__law_off hr psD (pda_cons (pd_var 0 (pv 0)) (pda_cons (pd_sub (ixd (hu_of hr)) (pd_lstF (pda_cons pd_int (pda_cons pd_int pda_nil))) (pd_fn F__law_off hr psD (pda_cons (pd_var 0 (pv 0)) (pda_cons pd_int pda_nil)))) pda_nil))) (pda_cons (pd_var 2 (pv 2)) (pda_cons (pd_var 3 (pv 3)) (pda_cons (pd_var 1 (pv 1)) pda_nil))))))))))
abbrev s__law_changed : Stmt := top 46
theorem sc__law_changed : FnScope N__law_changed ["_law_d", "_law_hand", "_law_m"] (defScope s__law_changed) := ⟨rfl, rfl, rfl, by decide +kernel, rfl, by decide +kernel, by decide +kernel⟩
theorem bd__law_changed {P : Program} {w : World} {K : PySem.W.Frag} {TT : List (Addr × Str)} {mg : Str → Option Value} {base : Heap} (Tx : Txt K mg) (F__law_off : Fn P w (K, TT) mg base "_law_off" 1 ["_law_d", "_law_most"] sd__law_off) (F_Hand_invite : Mt P w (K, TT) mg base Tx.a_Hand "invite" 8 ["self", "number", "hand"] (sd_Hand_invite Tx.ca)) (F_Hand_move : Mt P w (K, TT) mg base Tx.a_Hand "move" 4 ["self", "number", "begin"] (sd_Hand_move Tx.ca)) (F_Hand_move_one : Mt P w (K, TT) mg base Tx.a_Hand "move_one" 5 ["self", "number", "k", "begin"] (sd_Hand_move_one Tx.ca)) (F_Hand_rename : Mt P w (K, TT) mg base Tx.a_Hand "rename" 4 ["self", "number", "text"] (sd_Hand_rename Tx.ca)) (F_Hand_uninvite : Mt P w (K, TT) mg base Tx.a_Hand "uninvite" 4 ["self", "number", "hand"] (sd_Hand_uninvite Tx.ca)) {gB : Addr} {fdB : FuncData} (FB : FunD K "_law_is_bad" "_law_is_bad" (defArgs s_bad) (defBody s_bad) (defScope s_bad) [] [] gB fdB) (mB : mg "_law_is_bad" = some (.ref gB)) {c PA : Addr} (TB : LamX.TabB base mg c PA) (hmT : (PA, ("_law_changed" : Str) ++ ".<locals>." ++ "<lambda>") ∈ TT) (huT : ∀ q ∈ TT, q.1 = PA → q.2 = ("_law_changed" : Str) ++ ".<locals>." ++ "<lambda>") : BodyD P w K TT (fun v => v = .ref c) mg base N__law_changed "_law_changed" (defScope s__law_changed) (defBody s__law_changed) 10 (b__law_changed Tx.ca) := by
  intro f cdv A outer s H E hcv hr
  have nd : (N__law_changed).Nodup := sc__law_changed.nd
  have hcode : cdv = .ref c := hcv
  subst hcode
  exact (pdss_cons (pds_asg (pd_sub (ixd (hu_of hr)) (pd_var 2 (pv 2)) pd_str) (pdg_name (i := 3) nd rfl (by first | exact Or.inl rfl | exact Or.inr rfl)))
  (pdss_cons (pds_asg (pd_fn F__law_off hr psD (pda_cons (pd_var 0 (pv 0)) (pda_cons pd_int pda_nil))) (pdg_name (i := 4) nd rfl (by first | exact Or.inl rfl | exact Or.inr rfl)))
  (pdss_cons (pds_asg (pd_fn F__law_off hr psD (pda_cons (pd_var 0 (pv 0)) (pda_cons (pd_sub (ixd (hu_of hr)) (pd_sub (ixd (hu_of hr)) (pd_var 2 (pv 2)) pd_str) pd_int) pda_nil))) (pdg_name (i := 5) nd rfl (by first | exact Or.inl rfl | exact Or.inr rfl)))
  (pdss_cons (pds_asg (pd_fn F__law_off hr psD (pda_cons (pd_var 0 (pv 0)) (pda_cons pd_int pda_nil))) (pdg_name (i := 6) nd rfl (by first | exact Or.inl rfl | exact Or.inr rfl)))
  (pdss_cons (pds_if (pdt_cp od_lt (pd_var 4 (pv 4)) pd_int) (pdss_cons (pds_expr (pd_mt Tx.cl_Hand F_Hand_move hr psD (pd_var 1 (pv 1)) (pda_cons (pd_var 3 (pv 3)) (pda_cons (pd_var 6 (pv 6)) pda_nil))))
  (pdss_cons (pds_asg (pd_bin od_addF (pd_tup (pda_cons (pd_var 6 (pv 6)) pda_nil)) (pd_slice sldF (pd_sub (ixd (hu_of hr)) (pd_var 2 (pv 2)) pd_str) (pdo_some pd_int) pdo_none)) (pdg_sub (set_dictD (hu_of hr)).1 (set_dictD (hu_of hr)).2 (pd_var 2 (pv 2)) pd_str))
  (pdss_cons (pds_asg (pd_bin od_addF (pd_sub (ixd (hu_of hr)) (pd_var 2 (pv 2)) pd_str) pd_int) (pdg_sub (set_dictD (hu_of hr)).1 (set_dictD (hu_of hr)).2 (pd_var 2 (pv 2)) pd_str))
  (pdss_one (pds_asg (pd_lstF pda_nil) (pdg_sub (set_dictD (hu_of hr)).1 (set_dictD (hu_of hr)).2 (pd_var 2 (pv 2)) pd_str)))))) (pdss_one (pds_if (pdt_cp od_lt (pd_var 4 (pv 4)) pd_int) (pdss_cons (pds_asg (pd_sub (ixd (hu_of hr)) (pd_lstF (pda_cons (pd_var 6 (pv 6)) (pda_cons pd_non pda_nil))) (pd_fn F__law_off hr psD (pda_cons (pd_var 0 (pv 0)) (pda_cons pd_int pda_nil)))) (pdg_name (i := 6) nd rfl (by first | exact Or.inl rfl | exact Or.inr rfl)))
  (pdss_cons (pds_expr (pd_mt Tx.cl_Hand F_Hand_move_one hr psD (pd_var 1 (pv 1)) (pda_cons (pd_var 3 (pv 3)) (pda_cons (pd_var 5 (pv 5)) (pda_cons (pd_var 6 (pv 6)) pda_nil)))))
  (pdss_one (pds_asg (pd_bin od_addF (pd_sub (ixd (hu_of hr)) (pd_var 2 (pv 2)) pd_str) (pd_lstF (pda_cons (pd_tup (pda_cons (pd_var 5 (pv 5)) (pda_cons (pd_var 6 (pv 6)) pda_nil))) pda_nil))) (pdg_sub (set_dictD (hu_of hr)).1 (set_dictD (hu_of hr)).2 (pd_var 2 (pv 2)) pd_str))))) (pdss_one (pds_if (pdt_cp (od_eq hr.units) (pd_var 4 (pv 4)) pd_int) (pdss_cons (pds_asg (pd_sub (ixd (hu_of hr)) (pd_lstF (pda_cons pd_str (pda_cons pd_str (pda_cons pd_str (pda_cons pd_str (pda_cons pd_str pda_nil)))))) (pd_fn F__law_off hr psD (pda_cons (pd_var 0 (pv 0)) (pda_cons pd_int pda_nil)))) (pdg_sub (set_dictD (hu_of hr)).1 (set_dictD (hu_of hr)).2 (pd_var 2 (pv 2)) pd_str))
  (pdss_one (pds_expr (pd_mt Tx.cl_Hand F_Hand_rename hr psD (pd_var 1 (pv 1)) (pda_cons (pd_var 3 (pv 3)) (pda_cons (pd_sub (ixd (hu_of hr)) (pd_var 2 (pv 2)) pd_str) pda_nil)))))) (pdss_cons (pds_asg (pd_sub (ixd (hu_of hr)) (pd_lstF (pda_cons pd_int (pda_cons pd_int (pda_cons pd_int pda_nil)))) (pd_fn F__law_off hr psD (pda_cons (pd_var 0 (pv 0)) (pda_cons pd_int pda_nil)))) (pdg_name (i := 7) nd rfl (by first | exact Or.inl rfl | exact Or.inr rfl)))
  (pdss_cons (pds_if (pdt_cp (od_in (hu_of hr)) (pd_var 7 (pv 7)) (pd_sub (ixd (hu_of hr)) (pd_var 2 (pv 2)) pd_str)) (pdss_cons (pds_expr (pd_mt Tx.cl_Hand F_Hand_uninvite hr psD (pd_var 1 (pv 1)) (pda_cons (pd_var 3 (pv 3)) (pda_cons (pd_var 7 (pv 7)) pda_nil))))
  (pdss_one (pds_asg (pd_lcF (own := [("_law_one", 8)]) rfl nd (pdi_seq (pd_sub (ixd (hu_of hr)) (pd_var 2 (pv 2)) pd_str)) (blkOk_by (own := [("_law_one", 8)]) (N := N__law_changed) (sc := defScope s__law_changed) (by decide +kernel)) (blk_name (i := 8) (by decide) (fun _ _ _ _ _ => pg_name (i := 8) nd rfl (by first | exact Or.inl rfl | exact Or.inr rfl)) (fun _ _ _ _ _ => (pdts_one (pdt_cp (od_ne hr.units) (pd_var 8 (pv 8)) (pd_var 7 (pv 7))))) (fun _ _ _ _ _ => (pd_var 8 (pv 8))))) (pdg_sub (set_dictD (hu_of hr)).1 (set_dictD (hu_of hr)).2 (pd_var 2 (pv 2)) pd_str)))) (pdss_cons (pds_expr (pd_mt Tx.cl_Hand F_Hand_invite hr psD (pd_var 1 (pv 1)) (pda_cons (pd_var 3 (pv 3)) (pda_cons (pd_var 7 (pv 7)) pda_nil))))
  (pdss_one (pds_asg (pd_blt (cd_sortedF hr.units) Tx.f_sorted (by decide +kernel) (pda_cons (pd_bin od_addF (pd_sub (ixd (hu_of hr)) (pd_var 2 (pv 2)) pd_str) (pd_lstF (pda_cons (pd_var 7 (pv 7)) pda_nil))) pda_nil)) (pdg_sub (set_dictD (hu_of hr)).1 (set_dictD (hu_of hr)).2 (pd_var 2 (pv 2)) pd_str)))))
  (pdss_cons (pds_if (pdt_cp (od_in (hu_of hr)) (pd_var 7 (pv 7)) (pd_sub (ixd (hu_of hr)) (pd_var 2 (pv 2)) pd_str)) (pdss_one (pds_ret (pd_bad (X := cxOf (L2N.CX P w) P w K mg base N__law_changed "_law_changed" (defScope s__law_changed) f (.ref c) A outer s H E) (k := 8) FB mB sc_bad (fun _ _ _ _ _ _ us hl => match us, hl with | [_], _ => rfl) (fun cdg => bad_hand (X := cxOf (L2N.CX P w) P w K mg base N__law_changed "_law_changed" (defScope s__law_changed) f (.ref c) A outer s H E) Tx) psD TB rfl hmT huT (hr.mono (by decide)) (LamX.lamS_by (sc := defScope s__law_changed) (by decide +kernel)) rfl (fun _ _ _ _ _ => rfl) (fun A1 outer1 s1 H1 E1 f1 c1 hr => (pd_mt Tx.cl_Hand F_Hand_invite hr (psL (X := cxOf (L2N.CX P w) P w K mg base N__law_changed "_law_changed" (defScope s__law_changed) f (.ref c) A outer s H E)) (pd_var 1 (pv 1)) (pda_cons (pd_var 3 (pv 3)) (pda_cons (pd_var 7 (pv 7)) pda_nil))))))) pdss_nil)
  (pdss_one (pds_ret (pd_badD (X := cxOf (L2N.CX P w) P w K mg base N__law_changed "_law_changed" (defScope s__law_changed) f (.ref c) A outer s H E) (k := 4) (b := "_law_a") FB mB sc_bad (fun _ _ _ _ _ _ us hl => match us, hl with | [_], _ => rfl) (fun cdg => bad_hand (X := cxOf (L2N.CX P w) P w K mg base N__law_changed "_law_changed" (defScope s__law_changed) f (.ref c) A outer s H E) Tx) psD TB rfl hmT huT (hr.mono (by decide)) (lamS1_by (sc := defScope s__law_changed) (N := N__law_changed) (by decide +kernel)) rfl rfl rfl (fun _ _ _ _ => ⟨_, rfl, fun _ => rfl⟩) (fun A1 outer1 s1 H1 E1 f1 c1 hr => (pd_mt Tx.cl_Hand F_Hand_uninvite hr (psL (X := cxOf (L2N.CX P w) P w K mg base N__law_changed "_law_changed" (defScope s__law_changed) f (.ref c) A outer s H E)) (pd_var 1 (pv 1)) (pda_cons (pd_var 3 (pv 3)) (pda_cons (pd_var 7 (pv 7)) pda_nil)))))))))))))))
  (pdss_one (pds_ret pd_bl)))))))
abbrev s__law_told : Stmt := top 47
theorem sc__law_told : FnScope N__law_told ["_law_m"] (defScope s__law_told) := ⟨rfl, rfl, rfl, by decide +kernel, rfl, by decide +kernel, by decide +kernel⟩
theorem bd__law_told {P : Program} {w : World} {K : PySem.W.Frag} {TT : List (Addr × Str)} {cv : Value → Prop} {mg : Str → Option Value} {base : Heap} (Tx : Txt K mg) : BodyD P w K TT cv mg base N__law_told "_law_told" (defScope s__law_told) (defBody s__law_told) 0 b__law_told := by
  intro f cdv A outer s H E hcv hr
  have nd : (N__law_told).Nodup := sc__law_told.nd
  exact (pdss_cons (pds_asg (pd_lst pda_nil) (pdg_name (i := 1) nd rfl (by first | exact Or.inl rfl | exact Or.inr rfl)))
  (pdss_cons (pds_for poD rfl (pdi_range1 rfl Tx.f_range (pd_sub (ixd (hu_of hr)) (pd_sub (ixd (hu_of hr)) (pd_var 0 (pv 0)) pd_str) pd_int)) (pdg_name (i := 2) nd rfl (by first | exact Or.inl rfl | exact Or.inr rfl)) (pdss_cons (pds_setLcF (i := 3) (own := [("_law_one", 4), ("_law_begin", 5)]) rfl nd rfl rfl (sw_true rfl rfl rfl (by decide +kernel)) (pdi_seq (pd_sub (ixd (hu_of hr)) (pd_var 0 (pv 0)) pd_str)) (blkOk_by (own := [("_law_one", 4), ("_law_begin", 5)]) (N := N__law_told) (sc := defScope s__law_told) (by decide +kernel)) (blk_tup (is := [4, 5]) (by decide) (fun _ _ _ _ _ => pg_tup rfl (pgs_cons (pg_name (i := 4) nd rfl (by first | exact Or.inl rfl | exact Or.inr rfl)) (pgs_cons (pg_name (i := 5) nd rfl (by first | exact Or.inl rfl | exact Or.inr rfl)) pgs_nil))) (fun _ _ _ _ _ => (pdts_one (pdt_cp (od_eq hr.units) (pd_var 4 (pv 4)) (pd_var 2 (pv 2))))) (fun _ _ _ _ _ => (pd_var 5 (pv 5)))))
  (pdss_one (pds_expr (pd_bm PySem.F.plainAttrs_list PySem.F.slot_list_append PySem.F.type_list_append md_append (pd_var 1 (pv 1)) (pda_cons (pd_tup (pda_cons (pd_var 2 (pv 2)) (pda_cons (pd_if (pdt_cp (od_neE hr.units) (pd_var 3 (pv 3)) (pd_lstF pda_nil)) (pd_sub (ixd (hu_of hr)) (pd_var 3 (pv 3)) (pd_neg pd_int)) (pd_bin od_addF (pd_sub (ixd (hu_of hr)) (pd_sub (ixd (hu_of hr)) (pd_var 0 (pv 0)) pd_str) pd_int) (pd_bin od_mulF (pd_var 2 (pv 2)) (pd_sub (ixd (hu_of hr)) (pd_sub (ixd (hu_of hr)) (pd_var 0 (pv 0)) pd_str) pd_int)))) (pda_cons (pd_blt cd_len Tx.f_len (by decide +kernel) (pda_cons (pd_var 3 (pv 3)) pda_nil)) pda_nil)))) pda_nil))))))
  (pdss_cons (pds_setLcF (i := 6) (own := [("_law_one", 4)]) rfl nd rfl rfl (sw_true rfl rfl rfl (by decide +kernel)) (pdi_seq (pd_sub (ixd (hu_of hr)) (pd_var 0 (pv 0)) pd_str)) (blkOk_by (own := [("_law_one", 4)]) (N := N__law_told) (sc := defScope s__law_told) (by decide +kernel)) (blk_name (i := 4) (by decide) (fun _ _ _ _ _ => pg_name (i := 4) nd rfl (by first | exact Or.inl rfl | exact Or.inr rfl)) (fun _ _ _ _ _ => pdts_nil) (fun _ _ _ _ _ => (pd_tup (pda_cons (pd_var 4 (pv 4)) (pda_cons pd_non (pda_cons (pd_bin od_mulF (pd_lstF (pda_cons pd_str pda_nil)) (pd_sub (ixd (hu_of hr)) (pd_sub (ixd (hu_of hr)) (pd_var 0 (pv 0)) pd_str) pd_int)) pda_nil)))))))
  (pdss_one (pds_frz 1 (pds_ret (pd_tup (pda_cons pd_int (pda_cons (pd_sub (ixd (hu_of hr)) (pd_var 0 (pv 0)) pd_str) (pda_cons (pd_sub (ixd (hu_of hr)) (pd_var 0 (pv 0)) pd_str) (pda_cons (pd_sub (ixd (hu_of hr)) (pd_var 0 (pv 0)) pd_str) (pda_cons (pd_sub (ixd (hu_of hr)) (pd_sub (ixd (hu_of hr)) (pd_var 0 (pv 0)) pd_str) pd_int) (pda_cons (pd_var 1 (pv 1)) (pda_cons (pd_var 6 (pv 6)) pda_nil))))))))))))))
abbrev s_law : Stmt := top 48
theorem sc_law : FnScope N_law ["_law_script"] (defScope s_law) := ⟨rfl, rfl, rfl, by decide +kernel, rfl, by decide +kernel, by decide +kernel⟩
theorem bd_law {P : Program} {w : World} {K : PySem.W.Frag} {TT : List (Addr × Str)} {cv : Value → Prop} {mg : Str → Option Value} {base : Heap} (Tx : Txt K mg) (F__law_alike : Fn P w (K, TT) mg base "_law_alike" 6 ["_law_found", "_law_due"] (sd__law_alike 6)) (F__law_changed : Fn P w (K, TT) mg base "_law_changed" 11 ["_law_d", "_law_hand", "_law_m"] (sd__law_changed Tx.ca)) (F__law_dice : Fn P w (K, TT) mg base "_law_dice" 1 ["_law_script", "_law_k"] sd__law_dice) (F__law_mixed : Fn P w (K, TT) mg base "_law_mixed" 2 ["_law_d", "_law_row"] Lw.sd__law_mixed) (F__law_off : Fn P w (K, TT) mg base "_law_off" 1 ["_law_d", "_law_most"] sd__law_off) (F__law_plan : Fn P w (K, TT) mg base "_law_plan" 2 ["_law_d"] Lw.sd__law_plan) (F__law_told : Fn P w (K, TT) mg base "_law_told" 1 ["_law_m"] sd__law_told) (F_Hand_book : Mt P w (K, TT) mg base Tx.a_Hand "book" 5 ["self"] (sd_Hand_book' Tx.ca)) (F_Hand_call : Mt P w (K, TT) mg base Tx.a_Hand "call" 4 ["self", "plan", "guests"] (sd_Hand_call Tx.ca)) (F_Hand_call_off : Mt P w (K, TT) mg base Tx.a_Hand "call_off" 4 ["self", "number"] (sd_Hand_call_off Tx.ca)) (M_Hand : Mr P w (K, TT) mg base "Hand" Tx.a_Hand 3 ["self", "number"] (sd_Hand__init_ Tx.ca)) : BodyD P w K TT cv mg base N_law "law" (defScope s_law) (defBody s_law) 11 (b_law Tx.ca) := by
  intro f cdv A outer s H E hcv hr
  have nd : (N_law).Nodup := sc_law.nd
  exact (pdss_cons (pds_asg (pd_fn F__law_dice hr psD (pda_cons (pd_var 0 (pv 0)) (pda_cons pd_int pda_nil))) (pdg_name (i := 1) nd rfl (by first | exact Or.inl rfl | exact Or.inr rfl)))
  (pdss_cons (pds_asg (pd_mk M_Hand hr psD (pda_cons pd_int pda_nil)) (pdg_name (i := 2) nd rfl (by first | exact Or.inl rfl | exact Or.inr rfl)))
  (pdss_cons (pds_asg (pd_lst pda_nil) (pdg_name (i := 3) nd rfl (by first | exact Or.inl rfl | exact Or.inr rfl)))
  (pdss_cons (pds_asg (pd_sub (ixd (hu_of hr)) (pd_lstF (pda_cons (pd_tup (pda_cons pd_int (pda_cons pd_int pda_nil))) (pda_cons (pd_tup (pda_cons pd_int (pda_cons pd_int pda_nil))) (pda_cons (pd_tup (pda_cons pd_int (pda_cons pd_int pda_nil))) pda_nil)))) (pd_fn F__law_off hr psD (pda_cons (pd_var 1 (pv 1)) (pda_cons pd_int pda_nil)))) (pdg_tup rfl (pdgs_cons (pdg_name (i := 4) nd rfl (by first | exact Or.inl rfl | exact Or.inr rfl)) (pdgs_cons (pdg_name (i := 5) nd rfl (by first | exact Or.inl rfl | exact Or.inr rfl)) pdgs_nil))))
  (pdss_cons (pds_for poD rfl (pdi_range1 rfl Tx.f_range (pd_fn F__law_off hr psD (pda_cons (pd_var 1 (pv 1)) (pda_cons (pd_bin od_mulF pd_int (pd_var 4 (pv 4))) pda_nil)))) (pdg_name (i := 6) nd rfl (by first | exact Or.inl rfl | exact Or.inr rfl)) (pdss_cons (pds_setLcF (i := 7) (own := [("_law_m", 8)]) rfl nd rfl rfl (sw_true rfl rfl rfl (by decide +kernel)) (pdi_seq (pd_var 3 (pv 3))) (blkOk_by (own := [("_law_m", 8)]) (N := N_law) (sc := defScope s_law) (by decide +kernel)) (blk_name (i := 8) (by decide) (fun _ _ _ _ _ => pg_name (i := 8) nd rfl (by first | exact Or.inl rfl | exact Or.inr rfl)) (fun _ _ _ _ _ => (pdts_one (pdt_val (pd_sub (ixd (hu_of hr)) (pd_var 8 (pv 8)) pd_str)))) (fun _ _ _ _ _ => (pd_var 8 (pv 8)))))
  (pdss_cons (pds_if (PDW.pdt (pdw_and (pdt_cp od_lt (pd_blt cd_len Tx.f_len (by decide +kernel) (pda_cons (pd_var 3 (pv 3)) pda_nil)) (pd_var 4 (pv 4))) (pdw_and1 (PDW.pdt (pdw_or (pdt_cp (od_eqE hr.units) (pd_var 7 (pv 7)) (pd_lstF pda_nil)) (pdw_or1 (pdt_cp (od_eq hr.units) (pd_fn F__law_off hr psD (pda_cons (pd_var 1 (pv 1)) (pda_cons (pd_var 5 (pv 5)) pda_nil))) pd_int))))))) (pdss_cons (pds_asg (pd_fn F__law_plan hr psD (pda_cons (pd_var 1 (pv 1)) pda_nil)) (pdg_name (i := 9) nd rfl (by first | exact Or.inl rfl | exact Or.inr rfl)))
  (pdss_cons (pds_asg (pd_slice sldF (pd_fn F__law_mixed hr psD (pda_cons (pd_var 1 (pv 1)) (pda_cons (pd_lstF (pda_cons pd_int (pda_cons pd_int (pda_cons pd_int (pda_cons pd_int (pda_cons pd_int (pda_cons pd_int (pda_cons pd_int pda_nil)))))))) pda_nil))) pdo_none (pdo_some (pd_fn F__law_off hr psD (pda_cons (pd_var 1 (pv 1)) (pda_cons pd_int pda_nil))))) (pdg_name (i := 10) nd rfl (by first | exact Or.inl rfl | exact Or.inr rfl)))
  (pdss_cons (pds_asg (pd_mt Tx.cl_Hand F_Hand_call hr psD (pd_var 2 (pv 2)) (pda_cons (pd_var 9 (pv 9)) (pda_cons (pd_btt cd_tup Tx.f_tuple (by decide +kernel) (pda_cons (pd_var 10 (pv 10)) pda_nil)) pda_nil))) (pdg_tup rfl (pdgs_cons (pdg_name (i := 11) nd rfl (by first | exact Or.inl rfl | exact Or.inr rfl)) (pdgs_cons (pdg_name (i := 12) nd rfl (by first | exact Or.inl rfl | exact Or.inr rfl)) pdgs_nil))))
  (pdss_cons (pds_if (pdt_not (pdt_val (pd_fn F__law_alike hr psD (pda_cons (pd_var 11 (pv 11)) (pda_cons (pd_blt cd_len Tx.f_len (by decide +kernel) (pda_cons (pd_var 3 (pv 3)) pda_nil)) pda_nil))))) (pdss_one (pds_ret pd_bl)) pdss_nil)
  (pdss_cons (pds_expr (pd_bm PySem.F.plainAttrs_list PySem.F.slot_list_append PySem.F.type_list_append md_append (pd_var 3 (pv 3)) (pda_cons (pd_disp (pdps_cons (pd_var 11 (pv 11)) (pdps_cons (pd_var 9 (pv 9)) (pdps_cons (pd_blt (cd_sortedF hr.units) Tx.f_sorted (by decide +kernel) (pda_cons (pd_var 10 (pv 10)) pda_nil)) (pdps_cons pd_int (pdps_cons pd_str pdps_nil)))))) pda_nil)))
  (pdss_one (pds_expr (pd_bm PySem.F.plainAttrs_dict PySem.F.slot_dict_update PySem.F.type_dict_update (md_update rfl) (pd_sub (ixd (hu_of hr)) (pd_var 3 (pv 3)) (pd_neg pd_int)) (pda_cons (pd_lstF (pda_cons (pd_tup (pda_cons pd_str (pda_cons (pd_lstF pda_nil) pda_nil))) (pda_cons (pd_tup (pda_cons pd_str (pda_cons pd_bl pda_nil))) pda_nil))) pda_nil))))))))) (pdss_one (pds_if (pdt_cp (od_neE hr.units) (pd_var 7 (pv 7)) (pd_lstF pda_nil)) (pdss_cons (pds_asg (pd_sub (ixd (hu_of hr)) (pd_var 7 (pv 7)) (pd_fn F__law_off hr psD (pda_cons (pd_var 1 (pv 1)) (pda_cons (pd_blt cd_len Tx.f_len (by decide +kernel) (pda_cons (pd_var 7 (pv 7)) pda_nil)) pda_nil)))) (pdg_name (i := 8) nd rfl (by first | exact Or.inl rfl | exact Or.inr rfl)))
  (pdss_one (pds_if (pdt_cp (od_eq hr.units) (pd_fn F__law_off hr psD (pda_cons (pd_var 1 (pv 1)) (pda_cons pd_int pda_nil))) pd_int) (pdss_cons (pds_expr (pd_mt Tx.cl_Hand F_Hand_call_off hr psD (pd_var 2 (pv 2)) (pda_cons (pd_sub (ixd (hu_of hr)) (pd_var 8 (pv 8)) pd_str) pda_nil)))
  (pdss_one (pds_asg pd_bl (pdg_sub (set_dictD (hu_of hr)).1 (set_dictD (hu_of hr)).2 (pd_var 8 (pv 8)) pd_str)))) (pdss_one (pds_if (pdt_not (pdt_val (pd_fn F__law_changed hr psD (pda_cons (pd_var 1 (pv 1)) (pda_cons (pd_var 2 (pv 2)) (pda_cons (pd_var 8 (pv 8)) pda_nil)))))) (pdss_one (pds_ret pd_bl)) pdss_nil))))) pdss_nil)))
  (pdss_one (pds_for poD rfl (pdi_range1 rfl Tx.f_range pd_int) (pdg_name (i := 13) nd rfl (by first | exact Or.inl rfl | exact Or.inr rfl)) (pdss_cons (pds_asg (pd_mt0 Tx.cl_Hand F_Hand_book hr psD (pd_var 2 (pv 2))) (pdg_name (i := 14) nd rfl (by first | exact Or.inl rfl | exact Or.inr rfl)))
  (pdss_cons (pds_if (pdt_not (pdt_val (pd_fn F__law_alike hr psD (pda_cons (pd_var 14 (pv 14)) (pda_cons (pd_lcF (own := [("_law_m", 8)]) rfl nd (pdi_seq (pd_var 3 (pv 3))) (blkOk_by (own := [("_law_m", 8)]) (N := N_law) (sc := defScope s_law) (by decide +kernel)) (blk_name (i := 8) (by decide) (fun _ _ _ _ _ => pg_name (i := 8) nd rfl (by first | exact Or.inl rfl | exact Or.inr rfl)) (fun _ _ _ _ _ => (pdts_one (pdt_val (pd_sub (ixd (hu_of hr)) (pd_var 8 (pv 8)) pd_str)))) (fun _ _ _ _ _ => (pd_fn F__law_told hr passN (pda_cons (pd_var 8 (pv 8)) pda_nil))))) pda_nil))))) (pdss_one (pds_ret pd_bl)) pdss_nil)
  (pdss_cons (pds_for poD rfl (pdi_seq (pd_var 14 (pv 14))) (pdg_name (i := 15) nd rfl (by first | exact Or.inl rfl | exact Or.inr rfl)) (pdss_cons (pds_expr (pd_bm PySem.F.plainAttrs_list PySem.F.slot_list_append PySem.F.type_list_append md_append (pd_sub (ixd (hu_of hr)) (pd_var 15 (pv 15)) pd_int) (pda_cons (pd_tup pda_nil) pda_nil)))
  (pdss_one (pds_expr (pd_bm0 PySem.F.plainAttrs_list PySem.F.slot_list_clear PySem.F.type_list_clear md_clear (pd_sub (ixd (hu_of hr)) (pd_var 15 (pv 15)) pd_int))))))
  (pdss_one (pds_expr (pd_bm PySem.F.plainAttrs_list PySem.F.slot_list_append PySem.F.type_list_append md_append (pd_var 14 (pv 14)) (pda_cons (pd_tup pda_nil) pda_nil))))))))))))
  (pdss_one (pds_ret pd_bl)))))))
end K03
/-! ### a tuple in a tuple of the module's -/
namespace Cc
open PySem PySem.Spec PyProof.Rows L2
def itAt (x : Str) (i : Nat) (K : PySem.W.Frag) : Addr := match K.lookup (He.ga K x) with
  | some o => (match o.data with
    | .seq its _ => (match its[i]? with
      | some (.ref b) => b
      | _ => 0)
    | _ => 0)
  | none => 0
def isTupC : Value → Bool
  | .type c => decide (c = "tuple")
  | _ => false
def tupBA (K : PySem.W.Frag) (a : Addr) (vs : List He.Dv) : Bool := match K.lookup a with
  | some o => isTupC o.cls && (o.dict.isNone && (match o.data with
    | .seq its _ => decide (its.size ≤ sizeLine) && He.relAll (vs.map (He.Dv.v K)) its.toList
    | _ => false))
  | none => false
theorem isTupC_ok {v : Value} (h : isTupC v = true) : v = Value.type "tuple" := by
  unfold isTupC at h
  split at h
  · rw [of_decide_eq_true h]
  · cases h
theorem tupBA_ok {K : PySem.W.Frag} {a : Addr} {vs : List He.Dv} (h : tupBA K a vs = true) (H : Hp) : SqT K H a (vs.map (He.Dv.v K)) := by
  unfold tupBA at h
  split at h
  · rename_i o q
    rw [Bool.and_eq_true, Bool.and_eq_true] at h
    obtain ⟨h1, h2, h3⟩ := h
    split at h3
    · rename_i its n e
      rw [Bool.and_eq_true, decide_eq_true_eq] at h3
      exact .inr ⟨_, its, n, q, isTupC_ok h1, e, h3.1, He.relAll_ok h3.2⟩
    · cases h3
  · cases h
end Cc
namespace K03
open PySem PySem.Spec PyProof.Rows L2 Cc Pl Hd Lw
def d_change_of : He.DefD := ⟨("change_of", none), "change_of", "change_of", defArgs s_change_of, defBody s_change_of, defScope s_change_of, [], []⟩
def d_changed : He.DefD := ⟨("changed", none), "changed", "changed", defArgs s_changed, defBody s_changed, defScope s_changed, [], []⟩
def d_word_of : He.DefD := ⟨("word_of", none), "word_of", "word_of", defArgs s_word_of, defBody s_word_of, defScope s_word_of, [], []⟩
def d_words_of : He.DefD := ⟨("words_of", none), "words_of", "words_of", defArgs s_words_of, defBody s_words_of, defScope s_words_of, [], []⟩
def d_Record__init_ : He.DefD := ⟨("Record", some "__init__"), "__init__", "Record.__init__", defArgs s_Record__init_, defBody s_Record__init_, defScope s_Record__init_, [], []⟩
def d_Record_parts : He.DefD := ⟨("Record", some "parts"), "parts", "Record.parts", defArgs s_Record_parts, defBody s_Record_parts, defScope s_Record_parts, [], []⟩
def d_Record_hands : He.DefD := ⟨("Record", some "hands"), "hands", "Record.hands", defArgs s_Record_hands, defBody s_Record_hands, defScope s_Record_hands, [], []⟩
def d_Record_say_of : He.DefD := ⟨("Record", some "say_of"), "say_of", "Record.say_of", defArgs s_Record_say_of, defBody s_Record_say_of, defScope s_Record_say_of, [], []⟩
def d_Record_grow : He.DefD := ⟨("Record", some "grow"), "grow", "Record.grow", defArgs s_Record_grow, defBody s_Record_grow, defScope s_Record_grow, [], []⟩
def d_Record_move : He.DefD := ⟨("Record", some "move"), "move", "Record.move", defArgs s_Record_move, defBody s_Record_move, defScope s_Record_move, [], []⟩
def d_Record_move_one : He.DefD := ⟨("Record", some "move_one"), "move_one", "Record.move_one", defArgs s_Record_move_one, defBody s_Record_move_one, defScope s_Record_move_one, [], []⟩
def d_Record_add : He.DefD := ⟨("Record", some "add"), "add", "Record.add", defArgs s_Record_add, defBody s_Record_add, defScope s_Record_add, [], []⟩
def d_Record_drop : He.DefD := ⟨("Record", some "drop"), "drop", "Record.drop", defArgs s_Record_drop, defBody s_Record_drop, defScope s_Record_drop, [], []⟩
def d_Record_hear : He.DefD := ⟨("Record", some "hear"), "hear", "Record.hear", defArgs s_Record_hear, defBody s_Record_hear, defScope s_Record_hear, [], []⟩
def d_is_between : He.DefD := ⟨("is_between", none), "is_between", "is_between", defArgs s_is_between, defBody s_is_between, defScope s_is_between, [], []⟩
def d_is_plan : He.DefD := ⟨("is_plan", none), "is_plan", "is_plan", defArgs s_is_plan, defBody s_is_plan, defScope s_is_plan, [], []⟩
def d_need_plan : He.DefD := ⟨("need_plan", none), "need_plan", "need_plan", defArgs s_need_plan, defBody s_need_plan, defScope s_need_plan, [], []⟩
def d_is_name : He.DefD := ⟨("is_name", none), "is_name", "is_name", defArgs s_is_name, defBody s_is_name, defScope s_is_name, [], []⟩
def d_need_hand : He.DefD := ⟨("need_hand", none), "need_hand", "need_hand", defArgs s_need_hand, defBody s_need_hand, defScope s_need_hand, [], []⟩
def d_first_record : He.DefD := ⟨("first_record", none), "first_record", "first_record", defArgs s_first_record, defBody s_first_record, defScope s_first_record, [], []⟩
def d_Hosted__init_ : He.DefD := ⟨("Hosted", some "__init__"), "__init__", "Hosted.__init__", defArgs s_Hosted__init_, defBody s_Hosted__init_, defScope s_Hosted__init_, [], []⟩
def d_Hand__init_ : He.DefD := ⟨("Hand", some "__init__"), "__init__", "Hand.__init__", defArgs s_Hand__init_, defBody s_Hand__init_, defScope s_Hand__init_, [], []⟩
def d_Hand_to : He.DefD := ⟨("Hand", some "to"), "to", "Hand.to", defArgs s_Hand_to, defBody s_Hand_to, defScope s_Hand_to, [], []⟩
def d_Hand_tell : He.DefD := ⟨("Hand", some "tell"), "tell", "Hand.tell", defArgs s_Hand_tell, defBody s_Hand_tell, defScope s_Hand_tell, [], []⟩
def d_Hand_lacking : He.DefD := ⟨("Hand", some "lacking"), "lacking", "Hand.lacking", defArgs s_Hand_lacking, defBody s_Hand_lacking, defScope s_Hand_lacking, [], []⟩
def d_Hand_hosted : He.DefD := ⟨("Hand", some "hosted"), "hosted", "Hand.hosted", defArgs s_Hand_hosted, defBody s_Hand_hosted, defScope s_Hand_hosted, [], []⟩
def d_Hand_need_guest : He.DefD := ⟨("Hand", some "need_guest"), "need_guest", "Hand.need_guest", defArgs s_Hand_need_guest, defBody s_Hand_need_guest, defScope s_Hand_need_guest, [], []⟩
def d_Hand_call : He.DefD := ⟨("Hand", some "call"), "call", "Hand.call", defArgs s_Hand_call, defBody s_Hand_call, defScope s_Hand_call, [], []⟩
def d_Hand_need_begin : He.DefD := ⟨("Hand", some "need_begin"), "need_begin", "Hand.need_begin", defArgs s_Hand_need_begin, defBody s_Hand_need_begin, defScope s_Hand_need_begin, [], []⟩
def d_Hand_move : He.DefD := ⟨("Hand", some "move"), "move", "Hand.move", defArgs s_Hand_move, defBody s_Hand_move, defScope s_Hand_move, [], []⟩
def d_Hand_move_one : He.DefD := ⟨("Hand", some "move_one"), "move_one", "Hand.move_one", defArgs s_Hand_move_one, defBody s_Hand_move_one, defScope s_Hand_move_one, [], []⟩
def d_Hand_rename : He.DefD := ⟨("Hand", some "rename"), "rename", "Hand.rename", defArgs s_Hand_rename, defBody s_Hand_rename, defScope s_Hand_rename, [], []⟩
def d_Hand_call_off : He.DefD := ⟨("Hand", some "call_off"), "call_off", "Hand.call_off", defArgs s_Hand_call_off, defBody s_Hand_call_off, defScope s_Hand_call_off, [], []⟩
def d_Hand_invite : He.DefD := ⟨("Hand", some "invite"), "invite", "Hand.invite", defArgs s_Hand_invite, defBody s_Hand_invite, defScope s_Hand_invite, [], []⟩
def d_Hand_uninvite : He.DefD := ⟨("Hand", some "uninvite"), "uninvite", "Hand.uninvite", defArgs s_Hand_uninvite, defBody s_Hand_uninvite, defScope s_Hand_uninvite, [], []⟩
def d_rows_of : He.DefD := ⟨("rows_of", none), "rows_of", "rows_of", defArgs s_rows_of, defBody s_rows_of, defScope s_rows_of, [], []⟩
def d_Record_rows : He.DefD := ⟨("Record", some "rows"), "rows", "Record.rows", defArgs s_Record_rows, defBody s_Record_rows, defScope s_Record_rows, [], []⟩
def d_Record_told : He.DefD := ⟨("Record", some "told"), "told", "Record.told", defArgs s_Record_told, defBody s_Record_told, defScope s_Record_told, [], []⟩
def d_Hand_book : He.DefD := ⟨("Hand", some "book"), "book", "Hand.book", defArgs s_Hand_book, defBody s_Hand_book, defScope s_Hand_book, [], []⟩
def d_Hosted_take : He.DefD := ⟨("Hosted", some "take"), "take", "Hosted.take", defArgs s_Hosted_take, defBody s_Hosted_take, defScope s_Hosted_take, [], []⟩
def d_Hosted_add : He.DefD := ⟨("Hosted", some "add"), "add", "Hosted.add", defArgs s_Hosted_add, defBody s_Hosted_add, defScope s_Hosted_add, [], []⟩
def d__law_dice : He.DefD := ⟨("_law_dice", none), "_law_dice", "_law_dice", defArgs s__law_dice, defBody s__law_dice, defScope s__law_dice, [], []⟩
def d__law_off : He.DefD := ⟨("_law_off", none), "_law_off", "_law_off", defArgs s__law_off, defBody s__law_off, defScope s__law_off, [], []⟩
def d__law_alike : He.DefD := ⟨("_law_alike", none), "_law_alike", "_law_alike", defArgs s__law_alike, defBody s__law_alike, defScope s__law_alike, [], []⟩
def d__law_mixed : He.DefD := ⟨("_law_mixed", none), "_law_mixed", "_law_mixed", defArgs s__law_mixed, defBody s__law_mixed, defScope s__law_mixed, [], []⟩
def d__law_plan : He.DefD := ⟨("_law_plan", none), "_law_plan", "_law_plan", defArgs s__law_plan, defBody s__law_plan, defScope s__law_plan, [], []⟩
def d__law_changed : He.DefD := ⟨("_law_changed", none), "_law_changed", "_law_changed", defArgs s__law_changed, defBody s__law_changed, defScope s__law_changed, [], []⟩
def d__law_told : He.DefD := ⟨("_law_told", none), "_law_told", "_law_told", defArgs s__law_told, defBody s__law_told, defScope s__law_told, [], []⟩
def d_law : He.DefD := ⟨("law", none), "law", "law", defArgs s_law, defBody s_law, defScope s_law, [], []⟩
def d_bad : He.DefD := ⟨("_law_is_bad", none), "_law_is_bad", "_law_is_bad", defArgs s_bad, defBody s_bad, defScope s_bad, [], []⟩
def fns : List He.DefD := [d_change_of, d_changed, d_word_of, d_words_of, d_Record__init_, d_Record_parts, d_Record_hands, d_Record_say_of, d_Record_grow, d_Record_move, d_Record_move_one, d_Record_add, d_Record_drop, d_Record_hear, d_is_between, d_is_plan, d_need_plan, d_is_name, d_need_hand, d_first_record, d_Hosted__init_, d_Hand__init_, d_Hand_to, d_Hand_tell, d_Hand_lacking, d_Hand_hosted, d_Hand_need_guest, d_Hand_call, d_Hand_need_begin, d_Hand_move, d_Hand_move_one, d_Hand_rename, d_Hand_call_off, d_Hand_invite, d_Hand_uninvite, d_rows_of, d_Record_rows, d_Record_told, d_Hand_book, d_Hosted_take, d_Hosted_add, d__law_dice, d__law_off, d__law_alike, d__law_mixed, d__law_plan, d__law_changed, d__law_told, d_law, d_bad]
def fas : List He.Fa := [.glo "change_of", .glo "changed", .glo "word_of", .glo "words_of", .glo "is_between", .glo "is_plan", .glo "need_plan", .glo "is_name", .glo "need_hand", .glo "first_record", .glo "rows_of", .glo "_law_dice", .glo "_law_off", .glo "_law_alike", .glo "_law_mixed", .glo "_law_plan", .glo "_law_changed", .glo "_law_told", .glo "law", .glo "_law_is_bad", .free "abs", .free "all", .free "bool", .free "dict", .free "enumerate", .free "int", .free "isinstance", .free "len", .free "list", .free "range", .free "set", .free "sorted", .free "str", .free "tuple", .cls "Hand", .cls "Hosted", .cls "Record", .noat "Hand" "calls", .noat "Hand" "me", .noat "Hand" "own", .noat "Hosted" "heard", .noat "Hosted" "known", .noat "Hosted" "record", .noat "Record" "guests", .noat "Record" "note", .noat "Record" "ones", .noat "Record" "over", .noat "Record" "plan", .noat "Record" "record", .noat "Record" "say", .noat "Record" "says", .noat "Record" "stamp", .noat "Record" "version", .meth "Hand" "book", .meth "Hand" "call", .meth "Hand" "call_off", .meth "Hand" "hosted", .meth "Hand" "invite", .meth "Hand" "lacking", .meth "Hand" "move", .meth "Hand" "move_one", .meth "Hand" "need_begin", .meth "Hand" "need_guest", .meth "Hand" "rename", .meth "Hand" "tell", .meth "Hand" "to", .meth "Hand" "uninvite", .meth "Hosted" "add", .meth "Hosted" "take", .meth "Record" "add", .meth "Record" "drop", .meth "Record" "grow", .meth "Record" "hands", .meth "Record" "hear", .meth "Record" "move", .meth "Record" "move_one", .meth "Record" "parts", .meth "Record" "rows", .meth "Record" "say_of", .meth "Record" "told", .mkr "Hand", .glo "Hand", .mkr "Hosted", .glo "Hosted", .mkr "Record", .glo "Record", .exc "BadHand", .glo "BadHand", .exc "BadPlan", .glo "BadPlan", .exc "BadWord", .glo "BadWord", .exc "NoMeeting", .glo "NoMeeting", .str "ASKED" "asked", .int "HANDS" 8, .str "LETTERS" "abcdefghijklmnopqrstuvwxyz", .int "MOST_BEGIN" 999, .int "MOST_EVERY" 100, .int "MOST_GUESTS" 6, .int "MOST_LONG" 50, .int "MOST_MANY" 12, .int "MOST_NAME" 10, .glo "NOTHING", .str "PASSED" "passed", .glo "CallError", .exm "BadHand" "CallError" true]
def tfs : List He.Defn := [("changed", none), ("Record", some "add"), ("Record", some "hear"), ("Hand", some "book"), ("_law_changed", none)]
def exL (K : PySem.W.Frag) : List Bool := [He.tupB K "NOTHING" [(.int 0), .non, (.adr (Cc.itAt "NOTHING" 2)), .non], Cc.tupBA K (Cc.itAt "NOTHING" 2 K) [], excCB K (He.ga K "BadHand"), decide (PySem.W.kitOne K (.ref (He.ga K "BadHand")) (.ref (He.ga K "BadHand")) = some true), decide (([(He.cT K ("changed", none)).2, (He.cT K ("Record", some "add")).2, (He.cT K ("Record", some "hear")).2, (He.cT K ("Hand", some "book")).2, (He.cT K ("_law_changed", none)).2] : List Addr).Nodup)]
def exB (K : PySem.W.Frag) : Bool := (exL K).all id
abbrev R : PySem.W.OpenRow := PySem.W.OpenLaw.row PySem.Challenge.rw_crosscalls_k03_a_host_alone
abbrev hk : PySem.W.Hook := He.hookX 5 fas fns [] tfs exB
def ob (s : PySem.W.SharedT) : He.AlX := He.obsX 5 fas fns [] tfs exB (HandSHeadRun.getT s)
theorem ob_eq (s : PySem.W.SharedT) : ob s = hk.obs s.abs := He.obsX_eq (HandSHeadRun.getT_eq s)
theorem run (w : World) : HandSHeadRun.RunEq R (PySem.W.view R.prog [48]) hk ob 20000 (("_wall" : Str) :: ("CallError" : Str) :: ("BadHand" : Str) :: ("BadPlan" : Str) :: ("BadWord" : Str) :: ("NoMeeting" : Str) :: ("HANDS" : Str) :: ("MOST_BEGIN" : Str) :: ("MOST_LONG" : Str) :: ("MOST_EVERY" : Str) :: ("MOST_MANY" : Str) :: ("MOST_NAME" : Str) :: ("LETTERS" : Str) :: ("is_between" : Str) :: ("is_plan" : Str) :: ("need_plan" : Str) :: ("is_name" : Str) :: ("change_of" : Str) :: ("changed" : Str) :: ("rows_of" : Str) :: ("WORDS" : Str) :: ("ASKED" : Str) :: ("PASSED" : Str) :: ("NOTHING" : Str) :: ("oftens_of" : Str) :: ("said_whole" : Str) :: ("word_of" : Str) :: ("words_of" : Str) :: ("Record" : Str) :: ("first_record" : Str) :: ("MOST_GUESTS" : Str) :: ("need_hand" : Str) :: ("Hosted" : Str) :: ("Hand" : Str) :: ("_law_dice" : Str) :: ("_law_off" : Str) :: ("_law_alike" : Str) :: ("_law_mixed" : Str) :: ("_law_plan" : Str) :: ("_law_is_bad" : Str) :: ("_law_changed" : Str) :: ("_law_told" : Str) :: ([] : List Str)) w := by
  intro os
  kernel_rfl
end K03
namespace K03
open PySem PySem.Spec PyProof.Rows L2 Cc Pl Hd Lw
theorem len_take {ca : CA} {k : Nat} : ∀ ds G R EX, sd_Hosted_take ca (k + 1) ds G R EX → ds.length = (["self", "hand"] : List Str).length := fun ds G R EX h => by
  obtain ⟨_, _, rfl, _⟩ := h; rfl
theorem len_add {ca : CA} {k : Nat} : ∀ ds G R EX, sd_Hosted_add ca (k + 1) ds G R EX → ds.length = (["self", "hand", "by"] : List Str).length := fun ds G R EX h => by
  cases k with
  | zero => exact h.elim
  | succ k => obtain ⟨_, _, _, rfl, _⟩ := h; rfl
theorem pureA (ca : CA) : ∀ (k : Nat) (ds : List D) (G : DH) (R : DK) (EX : DX), sd_Hosted_add ca (k + 1) ds G R EX → b_Hosted_add ca k (endsD (frg R) EX) (startD N_Hosted_add ds) G := fun k ds G R EX h => by
  cases k with
  | zero => exact h.elim
  | succ k => exact pure_Hosted_add ca k ds G R EX h
abbrev TT (K : PySem.W.Frag) : List (Addr × Str) := [((He.cT K ("changed", none)).2, ("changed" : Str) ++ ".<locals>." ++ "<lambda>"), ((He.cT K ("Record", some "add")).2, ("Record.add" : Str) ++ ".<locals>." ++ "<lambda>"), ((He.cT K ("Record", some "hear")).2, ("Record.hear" : Str) ++ ".<locals>." ++ "<lambda>"), ((He.cT K ("Hand", some "book")).2, ("Hand.book" : Str) ++ ".<locals>." ++ "<lambda>"), ((He.cT K ("_law_changed", none)).2, ("_law_changed" : Str) ++ ".<locals>." ++ "<lambda>")]
theorem exAt {K : PySem.W.Frag} (h : exB K = true) (i : Nat) {b : Bool} (e : (exL K)[i]? = some b) : b = true := List.all_eq_true.mp h b (List.mem_of_getElem? e)
def txt {w : World} {K : PySem.W.Frag} {h : Heap} {mg : Str → Option Value} (X : K.In h) (G : h.Ns mainGlobals mg) (Y : He.SaysX fas fns [] tfs exB w h K) : Txt K mg :=
  have Y1 : ∀ (i : Nat) {b : Bool}, (exL K)[i]? = some b → b = true := fun i {b} e => exAt Y.more i e
  { a_BadHand := He.ga K "BadHand",
    a_BadPlan := He.ga K "BadPlan",
    a_BadWord := He.ga K "BadWord",
    a_Hand := He.ga K "Hand",
    a_Hosted := He.ga K "Hosted",
    a_NoMeeting := He.ga K "NoMeeting",
    a_Record := He.ga K "Record",
    cl_Hand := He.cls_ok (Y.t.d.facts (List.mem_of_getElem? (i := 34) rfl)),
    cl_Hosted := He.cls_ok (Y.t.d.facts (List.mem_of_getElem? (i := 35) rfl)),
    cl_Record := He.cls_ok (Y.t.d.facts (List.mem_of_getElem? (i := 36) rfl)),
    n_Hand_calls := He.noat_ok (Y.t.d.facts (List.mem_of_getElem? (i := 37) rfl)),
    n_Hand_me := He.noat_ok (Y.t.d.facts (List.mem_of_getElem? (i := 38) rfl)),
    n_Hand_own := He.noat_ok (Y.t.d.facts (List.mem_of_getElem? (i := 39) rfl)),
    n_Hosted_heard := He.noat_ok (Y.t.d.facts (List.mem_of_getElem? (i := 40) rfl)),
    n_Hosted_known := He.noat_ok (Y.t.d.facts (List.mem_of_getElem? (i := 41) rfl)),
    n_Hosted_record := He.noat_ok (Y.t.d.facts (List.mem_of_getElem? (i := 42) rfl)),
    n_Record_guests := He.noat_ok (Y.t.d.facts (List.mem_of_getElem? (i := 43) rfl)),
    n_Record_note := He.noat_ok (Y.t.d.facts (List.mem_of_getElem? (i := 44) rfl)),
    n_Record_ones := He.noat_ok (Y.t.d.facts (List.mem_of_getElem? (i := 45) rfl)),
    n_Record_over := He.noat_ok (Y.t.d.facts (List.mem_of_getElem? (i := 46) rfl)),
    n_Record_plan := He.noat_ok (Y.t.d.facts (List.mem_of_getElem? (i := 47) rfl)),
    n_Record_record := He.noat_ok (Y.t.d.facts (List.mem_of_getElem? (i := 48) rfl)),
    n_Record_say := He.noat_ok (Y.t.d.facts (List.mem_of_getElem? (i := 49) rfl)),
    n_Record_says := He.noat_ok (Y.t.d.facts (List.mem_of_getElem? (i := 50) rfl)),
    n_Record_stamp := He.noat_ok (Y.t.d.facts (List.mem_of_getElem? (i := 51) rfl)),
    n_Record_version := He.noat_ok (Y.t.d.facts (List.mem_of_getElem? (i := 52) rfl)),
    e_BadHand := err_at X G (Y.t.d.facts (List.mem_of_getElem? (i := 86) rfl)) (Y.t.d.facts (List.mem_of_getElem? (i := 87) rfl)),
    e_BadPlan := err_at X G (Y.t.d.facts (List.mem_of_getElem? (i := 88) rfl)) (Y.t.d.facts (List.mem_of_getElem? (i := 89) rfl)),
    e_BadWord := err_at X G (Y.t.d.facts (List.mem_of_getElem? (i := 90) rfl)) (Y.t.d.facts (List.mem_of_getElem? (i := 91) rfl)),
    e_NoMeeting := err_at X G (Y.t.d.facts (List.mem_of_getElem? (i := 92) rfl)) (Y.t.d.facts (List.mem_of_getElem? (i := 93) rfl)),
    c_ASKED := glo_str X G (Y.t.d.facts (List.mem_of_getElem? (i := 94) rfl)),
    c_HANDS := glo_int X G (Y.t.d.facts (List.mem_of_getElem? (i := 95) rfl)),
    c_LETTERS := glo_str X G (Y.t.d.facts (List.mem_of_getElem? (i := 96) rfl)),
    c_MOST_BEGIN := glo_int X G (Y.t.d.facts (List.mem_of_getElem? (i := 97) rfl)),
    c_MOST_EVERY := glo_int X G (Y.t.d.facts (List.mem_of_getElem? (i := 98) rfl)),
    c_MOST_GUESTS := glo_int X G (Y.t.d.facts (List.mem_of_getElem? (i := 99) rfl)),
    c_MOST_LONG := glo_int X G (Y.t.d.facts (List.mem_of_getElem? (i := 100) rfl)),
    c_MOST_MANY := glo_int X G (Y.t.d.facts (List.mem_of_getElem? (i := 101) rfl)),
    c_MOST_NAME := glo_int X G (Y.t.d.facts (List.mem_of_getElem? (i := 102) rfl)),
    c_NOTHING := glo_tup X G [(.int 0), .non, (.adr (Cc.itAt "NOTHING" 2)), .non] [(.int 0), .non, (.tup []), .non] (Y.t.d.facts (List.mem_of_getElem? (i := 103) rfl)) (Y1 0 rfl) (fun T H => (.cons (.int _) (.cons .non (.cons (.tup (Cc.tupBA_ok (Y1 1 rfl) H) .nil) (.cons .non .nil))))),
    c_PASSED := glo_str X G (Y.t.d.facts (List.mem_of_getElem? (i := 104) rfl)),
    a_CallError := He.ga K "CallError",
    rb_E := He.glo_ok X G (Y.t.d.facts (List.mem_of_getElem? (i := 105) rfl)),
    rb_H := glo_ref X G (Y.t.d.facts (List.mem_of_getElem? (i := 87) rfl)),
    xb_hand := excC_of (Y1 2 rfl),
    kb_hand := of_decide_eq_true (Y1 3 rfl),
    mb_hand := He.exm_ok (Y.t.d.facts (List.mem_of_getElem? (i := 106) rfl)),
    f_abs := He.free_ok X G (Y.t.d.facts (List.mem_of_getElem? (i := 20) rfl)),
    f_all := He.free_ok X G (Y.t.d.facts (List.mem_of_getElem? (i := 21) rfl)),
    f_bool := He.free_ok X G (Y.t.d.facts (List.mem_of_getElem? (i := 22) rfl)),
    f_dict := He.free_ok X G (Y.t.d.facts (List.mem_of_getElem? (i := 23) rfl)),
    f_enumerate := He.free_ok X G (Y.t.d.facts (List.mem_of_getElem? (i := 24) rfl)),
    f_int := He.free_ok X G (Y.t.d.facts (List.mem_of_getElem? (i := 25) rfl)),
    f_isinstance := He.free_ok X G (Y.t.d.facts (List.mem_of_getElem? (i := 26) rfl)),
    f_len := He.free_ok X G (Y.t.d.facts (List.mem_of_getElem? (i := 27) rfl)),
    f_list := He.free_ok X G (Y.t.d.facts (List.mem_of_getElem? (i := 28) rfl)),
    f_range := He.free_ok X G (Y.t.d.facts (List.mem_of_getElem? (i := 29) rfl)),
    f_set := He.free_ok X G (Y.t.d.facts (List.mem_of_getElem? (i := 30) rfl)),
    f_sorted := He.free_ok X G (Y.t.d.facts (List.mem_of_getElem? (i := 31) rfl)),
    f_str := He.free_ok X G (Y.t.d.facts (List.mem_of_getElem? (i := 32) rfl)),
    f_tuple := He.free_ok X G (Y.t.d.facts (List.mem_of_getElem? (i := 33) rfl)) }
theorem ends {w : World} {P : Program} {K : PySem.W.Frag} {h base : Heap} {mg : Str → Option Value} (X : K.In h) (G : h.Ns mainGlobals mg) (Y : He.SaysX fas fns [] tfs exB w h K) (TBs : ∀ q ∈ tfs, LamX.TabB base mg (He.cT K q).1 (He.cT K q).2) {fd : FuncData} (Fd : FunD K d_law.name d_law.qual d_law.params d_law.body d_law.scope [] [] (He.ga K "law") fd) : FnOk P w K mg base (L2N.CX P w) 12 (He.ga K "law") fd ["_law_script"] (upF (K, TT K) sdLaw) := by
  let Tx := txt X G Y
  have c := Y.t.d
  have nd : ((TT K).map (·.1)).Nodup := of_decide_eq_true (exAt Y.more 4 rfl)
  obtain ⟨gB, fdB, FB, mB⟩ := ref_at (x := "_law_is_bad") X G c (d := d_bad) (List.mem_of_getElem? (i := 49) rfl) rfl rfl rfl (List.mem_of_getElem? (i := 19) rfl)
  have F_change_of : Fn P w (K, TT K) mg base "change_of" 1 ["ones", "k"] Pl.sd_change_of := mkFn (cv := fun _ => True) X G c (d := d_change_of) (List.mem_of_getElem? (i := 0) rfl) rfl rfl rfl (List.mem_of_getElem? (i := 0) rfl) sc_change_of trivial (by intro ds G R EX h; first | (obtain ⟨_, rfl, _⟩ := h; rfl) | (obtain ⟨_, _, rfl, _⟩ := h; rfl) | (obtain ⟨_, _, _, rfl, _⟩ := h; rfl) | (obtain ⟨_, _, _, _, rfl, _⟩ := h; rfl) | (obtain ⟨_, _, _, _, _, rfl, _⟩ := h; rfl) | (obtain ⟨_, _, _, _, _, _, rfl, _⟩ := h; rfl) | (obtain ⟨rfl, _⟩ := h; rfl)) (bd_change_of Tx ) Pl.pure_change_of (fun _ _ _ _ _ _ us hl => match us, hl with | [_, _], _ => rfl)
  have F_changed : Fn P w (K, TT K) mg base "changed" 3 ["ones", "k", "begin"] Pl.sd_changed := mkFn (cv := fun v => v = .ref (He.cT K ("changed", none)).1) X G c (d := d_changed) (List.mem_of_getElem? (i := 1) rfl) rfl rfl rfl (List.mem_of_getElem? (i := 1) rfl) sc_changed rfl (by intro ds G R EX h; first | (obtain ⟨_, rfl, _⟩ := h; rfl) | (obtain ⟨_, _, rfl, _⟩ := h; rfl) | (obtain ⟨_, _, _, rfl, _⟩ := h; rfl) | (obtain ⟨_, _, _, _, rfl, _⟩ := h; rfl) | (obtain ⟨_, _, _, _, _, rfl, _⟩ := h; rfl) | (obtain ⟨_, _, _, _, _, _, rfl, _⟩ := h; rfl) | (obtain ⟨rfl, _⟩ := h; rfl)) (bd_changed Tx F_change_of (TBs _ (List.mem_of_getElem? (i := 0) rfl)) (List.mem_of_getElem? (i := 0) rfl) (hu_of nd (List.mem_of_getElem? (i := 0) rfl))) Pl.pure_changed (fun _ _ _ _ _ _ us hl => match us, hl with | [_, _, _], _ => rfl)
  have F_word_of : Fn P w (K, TT K) mg base "word_of" 2 ["say", "version", "ones", "k"] sd_word_of := mkFn (cv := fun _ => True) X G c (d := d_word_of) (List.mem_of_getElem? (i := 2) rfl) rfl rfl rfl (List.mem_of_getElem? (i := 2) rfl) sc_word_of trivial (by intro ds G R EX h; first | (obtain ⟨_, rfl, _⟩ := h; rfl) | (obtain ⟨_, _, rfl, _⟩ := h; rfl) | (obtain ⟨_, _, _, rfl, _⟩ := h; rfl) | (obtain ⟨_, _, _, _, rfl, _⟩ := h; rfl) | (obtain ⟨_, _, _, _, _, rfl, _⟩ := h; rfl) | (obtain ⟨_, _, _, _, _, _, rfl, _⟩ := h; rfl) | (obtain ⟨rfl, _⟩ := h; rfl)) (bd_word_of Tx F_change_of) pure_word_of (fun _ _ _ _ _ _ us hl => match us, hl with | [_, _, _, _], _ => rfl)
  have F_words_of : Fn P w (K, TT K) mg base "words_of" 3 ["say", "version", "ones", "many"] sd_words_of := mkFn (cv := fun _ => True) X G c (d := d_words_of) (List.mem_of_getElem? (i := 3) rfl) rfl rfl rfl (List.mem_of_getElem? (i := 3) rfl) sc_words_of trivial (by intro ds G R EX h; first | (obtain ⟨_, rfl, _⟩ := h; rfl) | (obtain ⟨_, _, rfl, _⟩ := h; rfl) | (obtain ⟨_, _, _, rfl, _⟩ := h; rfl) | (obtain ⟨_, _, _, _, rfl, _⟩ := h; rfl) | (obtain ⟨_, _, _, _, _, rfl, _⟩ := h; rfl) | (obtain ⟨_, _, _, _, _, _, rfl, _⟩ := h; rfl) | (obtain ⟨rfl, _⟩ := h; rfl)) (bd_words_of Tx F_word_of) pure_words_of (fun _ _ _ _ _ _ us hl => match us, hl with | [_, _, _, _], _ => rfl)
  have M_Record : Mr P w (K, TT K) mg base "Record" (He.ga K "Record") 1 ["self", "parts"] (sd_Record__init_ Tx.ca) := mkMr (cv := fun _ => True) X G c (d := d_Record__init_) (List.mem_of_getElem? (i := 4) rfl) rfl rfl rfl (List.mem_of_getElem? (i := 84) rfl) (List.mem_of_getElem? (i := 85) rfl) sc_Record__init_ trivial (by intro ds G R EX h; first | (obtain ⟨_, rfl, _⟩ := h; rfl) | (obtain ⟨_, _, rfl, _⟩ := h; rfl) | (obtain ⟨_, _, _, rfl, _⟩ := h; rfl) | (obtain ⟨_, _, _, _, rfl, _⟩ := h; rfl) | (obtain ⟨_, _, _, _, _, rfl, _⟩ := h; rfl) | (obtain ⟨_, _, _, _, _, _, rfl, _⟩ := h; rfl) | (obtain ⟨rfl, _⟩ := h; rfl)) (bd_Record__init_ Tx ) (pure_Record__init_ Tx.ca) (fun _ _ _ _ _ _ us hl => match us, hl with | [_, _], _ => rfl)
  have F_Record_parts : Mt P w (K, TT K) mg base (He.ga K "Record") "parts" 1 ["self"] (sd_Record_parts Tx.ca) := mkMt (cv := fun _ => True) X G c (d := d_Record_parts) (List.mem_of_getElem? (i := 5) rfl) rfl rfl rfl (List.mem_of_getElem? (i := 76) rfl) sc_Record_parts trivial (by intro ds G R EX h; first | (obtain ⟨_, rfl, _⟩ := h; rfl) | (obtain ⟨_, _, rfl, _⟩ := h; rfl) | (obtain ⟨_, _, _, rfl, _⟩ := h; rfl) | (obtain ⟨_, _, _, _, rfl, _⟩ := h; rfl) | (obtain ⟨_, _, _, _, _, rfl, _⟩ := h; rfl) | (obtain ⟨_, _, _, _, _, _, rfl, _⟩ := h; rfl) | (obtain ⟨rfl, _⟩ := h; rfl)) (bd_Record_parts Tx ) (pure_Record_parts Tx.ca) (fun _ _ _ _ _ _ us hl => match us, hl with | [_], _ => rfl)
  have F_Record_hands : Mt P w (K, TT K) mg base (He.ga K "Record") "hands" 1 ["self"] (sd_Record_hands Tx.ca) := mkMt (cv := fun _ => True) X G c (d := d_Record_hands) (List.mem_of_getElem? (i := 6) rfl) rfl rfl rfl (List.mem_of_getElem? (i := 72) rfl) sc_Record_hands trivial (by intro ds G R EX h; first | (obtain ⟨_, rfl, _⟩ := h; rfl) | (obtain ⟨_, _, rfl, _⟩ := h; rfl) | (obtain ⟨_, _, _, rfl, _⟩ := h; rfl) | (obtain ⟨_, _, _, _, rfl, _⟩ := h; rfl) | (obtain ⟨_, _, _, _, _, rfl, _⟩ := h; rfl) | (obtain ⟨_, _, _, _, _, _, rfl, _⟩ := h; rfl) | (obtain ⟨rfl, _⟩ := h; rfl)) (bd_Record_hands Tx ) (pure_Record_hands Tx.ca) (fun _ _ _ _ _ _ us hl => match us, hl with | [_], _ => rfl)
  have F_Record_say_of : Mt P w (K, TT K) mg base (He.ga K "Record") "say_of" 1 ["self", "hand"] (sd_Record_say_of Tx.ca) := mkMt (cv := fun _ => True) X G c (d := d_Record_say_of) (List.mem_of_getElem? (i := 7) rfl) rfl rfl rfl (List.mem_of_getElem? (i := 78) rfl) sc_Record_say_of trivial (by intro ds G R EX h; first | (obtain ⟨_, rfl, _⟩ := h; rfl) | (obtain ⟨_, _, rfl, _⟩ := h; rfl) | (obtain ⟨_, _, _, rfl, _⟩ := h; rfl) | (obtain ⟨_, _, _, _, rfl, _⟩ := h; rfl) | (obtain ⟨_, _, _, _, _, rfl, _⟩ := h; rfl) | (obtain ⟨_, _, _, _, _, _, rfl, _⟩ := h; rfl) | (obtain ⟨rfl, _⟩ := h; rfl)) (bd_Record_say_of Tx ) (pure_Record_say_of Tx.ca) (fun _ _ _ _ _ _ us hl => match us, hl with | [_, _], _ => rfl)
  have F_Record_grow : Mt P w (K, TT K) mg base (He.ga K "Record") "grow" 1 ["self"] (sd_Record_grow Tx.ca) := mkMt (cv := fun _ => True) X G c (d := d_Record_grow) (List.mem_of_getElem? (i := 8) rfl) rfl rfl rfl (List.mem_of_getElem? (i := 71) rfl) sc_Record_grow trivial (by intro ds G R EX h; first | (obtain ⟨_, rfl, _⟩ := h; rfl) | (obtain ⟨_, _, rfl, _⟩ := h; rfl) | (obtain ⟨_, _, _, rfl, _⟩ := h; rfl) | (obtain ⟨_, _, _, _, rfl, _⟩ := h; rfl) | (obtain ⟨_, _, _, _, _, rfl, _⟩ := h; rfl) | (obtain ⟨_, _, _, _, _, _, rfl, _⟩ := h; rfl) | (obtain ⟨rfl, _⟩ := h; rfl)) (bd_Record_grow Tx ) (pure_Record_grow Tx.ca) (fun _ _ _ _ _ _ us hl => match us, hl with | [_], _ => rfl)
  have F_Record_move : Mt P w (K, TT K) mg base (He.ga K "Record") "move" 2 ["self", "begin"] (sd_Record_move Tx.ca) := mkMt (cv := fun _ => True) X G c (d := d_Record_move) (List.mem_of_getElem? (i := 9) rfl) rfl rfl rfl (List.mem_of_getElem? (i := 74) rfl) sc_Record_move trivial (by intro ds G R EX h; first | (obtain ⟨_, rfl, _⟩ := h; rfl) | (obtain ⟨_, _, rfl, _⟩ := h; rfl) | (obtain ⟨_, _, _, rfl, _⟩ := h; rfl) | (obtain ⟨_, _, _, _, rfl, _⟩ := h; rfl) | (obtain ⟨_, _, _, _, _, rfl, _⟩ := h; rfl) | (obtain ⟨_, _, _, _, _, _, rfl, _⟩ := h; rfl) | (obtain ⟨rfl, _⟩ := h; rfl)) (bd_Record_move Tx F_Record_grow) (pure_Record_move Tx.ca) (fun _ _ _ _ _ _ us hl => match us, hl with | [_, _], _ => rfl)
  have F_Record_move_one : Mt P w (K, TT K) mg base (He.ga K "Record") "move_one" 4 ["self", "k", "begin"] (sd_Record_move_one Tx.ca) := mkMt (cv := fun _ => True) X G c (d := d_Record_move_one) (List.mem_of_getElem? (i := 10) rfl) rfl rfl rfl (List.mem_of_getElem? (i := 75) rfl) sc_Record_move_one trivial (by intro ds G R EX h; first | (obtain ⟨_, rfl, _⟩ := h; rfl) | (obtain ⟨_, _, rfl, _⟩ := h; rfl) | (obtain ⟨_, _, _, rfl, _⟩ := h; rfl) | (obtain ⟨_, _, _, _, rfl, _⟩ := h; rfl) | (obtain ⟨_, _, _, _, _, rfl, _⟩ := h; rfl) | (obtain ⟨_, _, _, _, _, _, rfl, _⟩ := h; rfl) | (obtain ⟨rfl, _⟩ := h; rfl)) (bd_Record_move_one Tx F_changed F_Record_grow) (pure_Record_move_one Tx.ca) (fun _ _ _ _ _ _ us hl => match us, hl with | [_, _, _], _ => rfl)
  have F_Record_hear : Mt P w (K, TT K) mg base (He.ga K "Record") "hear" 3 ["self", "hand", "say"] (sd_Record_hear Tx.ca) := mkMt (cv := fun v => v = .ref (He.cT K ("Record", some "hear")).1) X G c (d := d_Record_hear) (List.mem_of_getElem? (i := 13) rfl) rfl rfl rfl (List.mem_of_getElem? (i := 73) rfl) sc_Record_hear rfl (by intro ds G R EX h; first | (obtain ⟨_, rfl, _⟩ := h; rfl) | (obtain ⟨_, _, rfl, _⟩ := h; rfl) | (obtain ⟨_, _, _, rfl, _⟩ := h; rfl) | (obtain ⟨_, _, _, _, rfl, _⟩ := h; rfl) | (obtain ⟨_, _, _, _, _, rfl, _⟩ := h; rfl) | (obtain ⟨_, _, _, _, _, _, rfl, _⟩ := h; rfl) | (obtain ⟨rfl, _⟩ := h; rfl)) (bd_Record_hear Tx F_Record_grow (TBs _ (List.mem_of_getElem? (i := 2) rfl)) (List.mem_of_getElem? (i := 2) rfl) (hu_of nd (List.mem_of_getElem? (i := 2) rfl))) (pure_Record_hear Tx.ca) (fun _ _ _ _ _ _ us hl => match us, hl with | [_, _, _], _ => rfl)
  have F_Record_add : Mt P w (K, TT K) mg base (He.ga K "Record") "add" 4 ["self", "hand", "by", "say"] (sd_Record_add Tx.ca) := mkMt (cv := fun v => v = .ref (He.cT K ("Record", some "add")).1) X G c (d := d_Record_add) (List.mem_of_getElem? (i := 11) rfl) rfl rfl rfl (List.mem_of_getElem? (i := 69) rfl) sc_Record_add rfl (by intro ds G R EX h; first | (obtain ⟨_, rfl, _⟩ := h; rfl) | (obtain ⟨_, _, rfl, _⟩ := h; rfl) | (obtain ⟨_, _, _, rfl, _⟩ := h; rfl) | (obtain ⟨_, _, _, _, rfl, _⟩ := h; rfl) | (obtain ⟨_, _, _, _, _, rfl, _⟩ := h; rfl) | (obtain ⟨_, _, _, _, _, _, rfl, _⟩ := h; rfl) | (obtain ⟨rfl, _⟩ := h; rfl)) (bd_Record_add Tx F_Record_hear (TBs _ (List.mem_of_getElem? (i := 1) rfl)) (List.mem_of_getElem? (i := 1) rfl) (hu_of nd (List.mem_of_getElem? (i := 1) rfl))) (pure_Record_add Tx.ca) (fun _ _ _ _ _ _ us hl => match us, hl with | [_, _, _, _], _ => rfl)
  have F_Record_drop : Mt P w (K, TT K) mg base (He.ga K "Record") "drop" 2 ["self", "hand"] (sd_Record_drop Tx.ca) := mkMt (cv := fun _ => True) X G c (d := d_Record_drop) (List.mem_of_getElem? (i := 12) rfl) rfl rfl rfl (List.mem_of_getElem? (i := 70) rfl) sc_Record_drop trivial (by intro ds G R EX h; first | (obtain ⟨_, rfl, _⟩ := h; rfl) | (obtain ⟨_, _, rfl, _⟩ := h; rfl) | (obtain ⟨_, _, _, rfl, _⟩ := h; rfl) | (obtain ⟨_, _, _, _, rfl, _⟩ := h; rfl) | (obtain ⟨_, _, _, _, _, rfl, _⟩ := h; rfl) | (obtain ⟨_, _, _, _, _, _, rfl, _⟩ := h; rfl) | (obtain ⟨rfl, _⟩ := h; rfl)) (bd_Record_drop Tx F_Record_grow) (pure_Record_drop Tx.ca) (fun _ _ _ _ _ _ us hl => match us, hl with | [_, _], _ => rfl)
  have F_is_between : Fn P w (K, TT K) mg base "is_between" 1 ["part", "low", "high"] Pl.sd_is_between := mkFn (cv := fun _ => True) X G c (d := d_is_between) (List.mem_of_getElem? (i := 14) rfl) rfl rfl rfl (List.mem_of_getElem? (i := 4) rfl) sc_is_between trivial (by intro ds G R EX h; first | (obtain ⟨_, rfl, _⟩ := h; rfl) | (obtain ⟨_, _, rfl, _⟩ := h; rfl) | (obtain ⟨_, _, _, rfl, _⟩ := h; rfl) | (obtain ⟨_, _, _, _, rfl, _⟩ := h; rfl) | (obtain ⟨_, _, _, _, _, rfl, _⟩ := h; rfl) | (obtain ⟨_, _, _, _, _, _, rfl, _⟩ := h; rfl) | (obtain ⟨rfl, _⟩ := h; rfl)) (bd_is_between Tx ) Pl.pure_is_between (fun _ _ _ _ _ _ us hl => match us, hl with | [_, _, _], _ => rfl)
  have F_is_plan : Fn P w (K, TT K) mg base "is_plan" 2 ["plan"] Pl.sd_is_plan := mkFn (cv := fun _ => True) X G c (d := d_is_plan) (List.mem_of_getElem? (i := 15) rfl) rfl rfl rfl (List.mem_of_getElem? (i := 5) rfl) sc_is_plan trivial (by intro ds G R EX h; first | (obtain ⟨_, rfl, _⟩ := h; rfl) | (obtain ⟨_, _, rfl, _⟩ := h; rfl) | (obtain ⟨_, _, _, rfl, _⟩ := h; rfl) | (obtain ⟨_, _, _, _, rfl, _⟩ := h; rfl) | (obtain ⟨_, _, _, _, _, rfl, _⟩ := h; rfl) | (obtain ⟨_, _, _, _, _, _, rfl, _⟩ := h; rfl) | (obtain ⟨rfl, _⟩ := h; rfl)) (bd_is_plan Tx F_is_between) Pl.pure_is_plan (fun _ _ _ _ _ _ us hl => match us, hl with | [_], _ => rfl)
  have F_need_plan : Fn P w (K, TT K) mg base "need_plan" 3 ["plan"] (Pl.sd_need_plan Tx.ca.BadPlan) := mkFn (cv := fun _ => True) X G c (d := d_need_plan) (List.mem_of_getElem? (i := 16) rfl) rfl rfl rfl (List.mem_of_getElem? (i := 6) rfl) sc_need_plan trivial (by intro ds G R EX h; first | (obtain ⟨_, rfl, _⟩ := h; rfl) | (obtain ⟨_, _, rfl, _⟩ := h; rfl) | (obtain ⟨_, _, _, rfl, _⟩ := h; rfl) | (obtain ⟨_, _, _, _, rfl, _⟩ := h; rfl) | (obtain ⟨_, _, _, _, _, rfl, _⟩ := h; rfl) | (obtain ⟨_, _, _, _, _, _, rfl, _⟩ := h; rfl) | (obtain ⟨rfl, _⟩ := h; rfl)) (bd_need_plan Tx F_is_plan) (Pl.pure_need_plan _) (fun _ _ _ _ _ _ us hl => match us, hl with | [_], _ => rfl)
  have F_is_name : Fn P w (K, TT K) mg base "is_name" 1 ["text"] sd_is_name := mkFn (cv := fun _ => True) X G c (d := d_is_name) (List.mem_of_getElem? (i := 17) rfl) rfl rfl rfl (List.mem_of_getElem? (i := 7) rfl) sc_is_name trivial (by intro ds G R EX h; first | (obtain ⟨_, rfl, _⟩ := h; rfl) | (obtain ⟨_, _, rfl, _⟩ := h; rfl) | (obtain ⟨_, _, _, rfl, _⟩ := h; rfl) | (obtain ⟨_, _, _, _, rfl, _⟩ := h; rfl) | (obtain ⟨_, _, _, _, _, rfl, _⟩ := h; rfl) | (obtain ⟨_, _, _, _, _, _, rfl, _⟩ := h; rfl) | (obtain ⟨rfl, _⟩ := h; rfl)) (bd_is_name Tx ) pure_is_name (fun _ _ _ _ _ _ us hl => match us, hl with | [_], _ => rfl)
  have F_need_hand : Fn P w (K, TT K) mg base "need_hand" 2 ["number"] (sd_need_hand Tx.ca) := mkFn (cv := fun _ => True) X G c (d := d_need_hand) (List.mem_of_getElem? (i := 18) rfl) rfl rfl rfl (List.mem_of_getElem? (i := 8) rfl) sc_need_hand trivial (by intro ds G R EX h; first | (obtain ⟨_, rfl, _⟩ := h; rfl) | (obtain ⟨_, _, rfl, _⟩ := h; rfl) | (obtain ⟨_, _, _, rfl, _⟩ := h; rfl) | (obtain ⟨_, _, _, _, rfl, _⟩ := h; rfl) | (obtain ⟨_, _, _, _, _, rfl, _⟩ := h; rfl) | (obtain ⟨_, _, _, _, _, _, rfl, _⟩ := h; rfl) | (obtain ⟨rfl, _⟩ := h; rfl)) (bd_need_hand Tx F_is_between) (pure_need_hand Tx.ca) (fun _ _ _ _ _ _ us hl => match us, hl with | [_], _ => rfl)
  have F_first_record : Fn P w (K, TT K) mg base "first_record" 3 ["plan", "guests"] (sd_first_record Tx.ca) := mkFn (cv := fun _ => True) X G c (d := d_first_record) (List.mem_of_getElem? (i := 19) rfl) rfl rfl rfl (List.mem_of_getElem? (i := 9) rfl) sc_first_record trivial (by intro ds G R EX h; first | (obtain ⟨_, rfl, _⟩ := h; rfl) | (obtain ⟨_, _, rfl, _⟩ := h; rfl) | (obtain ⟨_, _, _, rfl, _⟩ := h; rfl) | (obtain ⟨_, _, _, _, rfl, _⟩ := h; rfl) | (obtain ⟨_, _, _, _, _, rfl, _⟩ := h; rfl) | (obtain ⟨_, _, _, _, _, _, rfl, _⟩ := h; rfl) | (obtain ⟨rfl, _⟩ := h; rfl)) (bd_first_record Tx M_Record) (pure_first_record Tx.ca) (fun _ _ _ _ _ _ us hl => match us, hl with | [_, _], _ => rfl)
  have M_Hosted : Mr P w (K, TT K) mg base "Hosted" (He.ga K "Hosted") 2 ["self", "record"] (sd_Hosted__init_ Tx.ca) := mkMr (cv := fun _ => True) X G c (d := d_Hosted__init_) (List.mem_of_getElem? (i := 20) rfl) rfl rfl rfl (List.mem_of_getElem? (i := 82) rfl) (List.mem_of_getElem? (i := 83) rfl) sc_Hosted__init_ trivial (by intro ds G R EX h; first | (obtain ⟨_, rfl, _⟩ := h; rfl) | (obtain ⟨_, _, rfl, _⟩ := h; rfl) | (obtain ⟨_, _, _, rfl, _⟩ := h; rfl) | (obtain ⟨_, _, _, _, rfl, _⟩ := h; rfl) | (obtain ⟨_, _, _, _, _, rfl, _⟩ := h; rfl) | (obtain ⟨_, _, _, _, _, _, rfl, _⟩ := h; rfl) | (obtain ⟨rfl, _⟩ := h; rfl)) (bd_Hosted__init_ Tx F_Record_hands) (pure_Hosted__init_ Tx.ca) (fun _ _ _ _ _ _ us hl => match us, hl with | [_, _], _ => rfl)
  have M_Hand : Mr P w (K, TT K) mg base "Hand" (He.ga K "Hand") 3 ["self", "number"] (sd_Hand__init_ Tx.ca) := mkMr (cv := fun _ => True) X G c (d := d_Hand__init_) (List.mem_of_getElem? (i := 21) rfl) rfl rfl rfl (List.mem_of_getElem? (i := 80) rfl) (List.mem_of_getElem? (i := 81) rfl) sc_Hand__init_ trivial (by intro ds G R EX h; first | (obtain ⟨_, rfl, _⟩ := h; rfl) | (obtain ⟨_, _, rfl, _⟩ := h; rfl) | (obtain ⟨_, _, _, rfl, _⟩ := h; rfl) | (obtain ⟨_, _, _, _, rfl, _⟩ := h; rfl) | (obtain ⟨_, _, _, _, _, rfl, _⟩ := h; rfl) | (obtain ⟨_, _, _, _, _, _, rfl, _⟩ := h; rfl) | (obtain ⟨rfl, _⟩ := h; rfl)) (bd_Hand__init_ Tx F_need_hand) (pure_Hand__init_ Tx.ca) (fun _ _ _ _ _ _ us hl => match us, hl with | [_, _], _ => rfl)
  have F_Hand_to : Mt P w (K, TT K) mg base (He.ga K "Hand") "to" 1 ["self", "hand", "body"] (sd_Hand_to Tx.ca) := mkMt (cv := fun _ => True) X G c (d := d_Hand_to) (List.mem_of_getElem? (i := 22) rfl) rfl rfl rfl (List.mem_of_getElem? (i := 65) rfl) sc_Hand_to trivial (by intro ds G R EX h; first | (obtain ⟨_, rfl, _⟩ := h; rfl) | (obtain ⟨_, _, rfl, _⟩ := h; rfl) | (obtain ⟨_, _, _, rfl, _⟩ := h; rfl) | (obtain ⟨_, _, _, _, rfl, _⟩ := h; rfl) | (obtain ⟨_, _, _, _, _, rfl, _⟩ := h; rfl) | (obtain ⟨_, _, _, _, _, _, rfl, _⟩ := h; rfl) | (obtain ⟨rfl, _⟩ := h; rfl)) (bd_Hand_to Tx ) (fun ds => pure_Hand_to ds Tx.ca) (fun _ _ _ _ _ _ us hl => match us, hl with | [_, _, _], _ => rfl)
  have F_Hand_tell : Mt P w (K, TT K) mg base (He.ga K "Hand") "tell" 2 ["self", "number", "hand"] (sd_Hand_tell Tx.ca) := mkMt (cv := fun _ => True) X G c (d := d_Hand_tell) (List.mem_of_getElem? (i := 23) rfl) rfl rfl rfl (List.mem_of_getElem? (i := 64) rfl) sc_Hand_tell trivial (by intro ds G R EX h; first | (obtain ⟨_, rfl, _⟩ := h; rfl) | (obtain ⟨_, _, rfl, _⟩ := h; rfl) | (obtain ⟨_, _, _, rfl, _⟩ := h; rfl) | (obtain ⟨_, _, _, _, rfl, _⟩ := h; rfl) | (obtain ⟨_, _, _, _, _, rfl, _⟩ := h; rfl) | (obtain ⟨_, _, _, _, _, _, rfl, _⟩ := h; rfl) | (obtain ⟨rfl, _⟩ := h; rfl)) (bd_Hand_tell Tx F_Hand_to F_Record_parts) (pure_Hand_tell Tx.ca) (fun _ _ _ _ _ _ us hl => match us, hl with | [_, _, _], _ => rfl)
  have F_Hand_lacking : Mt P w (K, TT K) mg base (He.ga K "Hand") "lacking" 3 ["self", "number"] (sd_Hand_lacking Tx.ca) := mkMt (cv := fun _ => True) X G c (d := d_Hand_lacking) (List.mem_of_getElem? (i := 24) rfl) rfl rfl rfl (List.mem_of_getElem? (i := 58) rfl) sc_Hand_lacking trivial (by intro ds G R EX h; first | (obtain ⟨_, rfl, _⟩ := h; rfl) | (obtain ⟨_, _, rfl, _⟩ := h; rfl) | (obtain ⟨_, _, _, rfl, _⟩ := h; rfl) | (obtain ⟨_, _, _, _, rfl, _⟩ := h; rfl) | (obtain ⟨_, _, _, _, _, rfl, _⟩ := h; rfl) | (obtain ⟨_, _, _, _, _, _, rfl, _⟩ := h; rfl) | (obtain ⟨rfl, _⟩ := h; rfl)) (bd_Hand_lacking Tx F_Hand_tell) (pure_Hand_lacking Tx.ca) (fun _ _ _ _ _ _ us hl => match us, hl with | [_, _], _ => rfl)
  have F_Hand_hosted : Mt P w (K, TT K) mg base (He.ga K "Hand") "hosted" 2 ["self", "number"] (sd_Hand_hosted Tx.ca) := mkMt (cv := fun _ => True) X G c (d := d_Hand_hosted) (List.mem_of_getElem? (i := 25) rfl) rfl rfl rfl (List.mem_of_getElem? (i := 56) rfl) sc_Hand_hosted trivial (by intro ds G R EX h; first | (obtain ⟨_, rfl, _⟩ := h; rfl) | (obtain ⟨_, _, rfl, _⟩ := h; rfl) | (obtain ⟨_, _, _, rfl, _⟩ := h; rfl) | (obtain ⟨_, _, _, _, rfl, _⟩ := h; rfl) | (obtain ⟨_, _, _, _, _, rfl, _⟩ := h; rfl) | (obtain ⟨_, _, _, _, _, _, rfl, _⟩ := h; rfl) | (obtain ⟨rfl, _⟩ := h; rfl)) (bd_Hand_hosted Tx F_is_between) (pure_Hand_hosted Tx.ca) (fun _ _ _ _ _ _ us hl => match us, hl with | [_, _], _ => rfl)
  have F_Hand_need_guest : Mt P w (K, TT K) mg base (He.ga K "Hand") "need_guest" 3 ["self", "hand"] (sd_Hand_need_guest Tx.ca) := mkMt (cv := fun _ => True) X G c (d := d_Hand_need_guest) (List.mem_of_getElem? (i := 26) rfl) rfl rfl rfl (List.mem_of_getElem? (i := 62) rfl) sc_Hand_need_guest trivial (by intro ds G R EX h; first | (obtain ⟨_, rfl, _⟩ := h; rfl) | (obtain ⟨_, _, rfl, _⟩ := h; rfl) | (obtain ⟨_, _, _, rfl, _⟩ := h; rfl) | (obtain ⟨_, _, _, _, rfl, _⟩ := h; rfl) | (obtain ⟨_, _, _, _, _, rfl, _⟩ := h; rfl) | (obtain ⟨_, _, _, _, _, _, rfl, _⟩ := h; rfl) | (obtain ⟨rfl, _⟩ := h; rfl)) (bd_Hand_need_guest Tx F_need_hand) (pure_Hand_need_guest Tx.ca) (fun _ _ _ _ _ _ us hl => match us, hl with | [_, _], _ => rfl)
  have F_Hand_call : Mt P w (K, TT K) mg base (He.ga K "Hand") "call" 4 ["self", "plan", "guests"] (sd_Hand_call Tx.ca) := mkMt (cv := fun _ => True) X G c (d := d_Hand_call) (List.mem_of_getElem? (i := 27) rfl) rfl rfl rfl (List.mem_of_getElem? (i := 54) rfl) sc_Hand_call trivial (by intro ds G R EX h; first | (obtain ⟨_, rfl, _⟩ := h; rfl) | (obtain ⟨_, _, rfl, _⟩ := h; rfl) | (obtain ⟨_, _, _, rfl, _⟩ := h; rfl) | (obtain ⟨_, _, _, _, rfl, _⟩ := h; rfl) | (obtain ⟨_, _, _, _, _, rfl, _⟩ := h; rfl) | (obtain ⟨_, _, _, _, _, _, rfl, _⟩ := h; rfl) | (obtain ⟨rfl, _⟩ := h; rfl)) (bd_Hand_call Tx F_first_record F_need_plan F_Hand_lacking F_Hand_need_guest M_Hosted) (pure_Hand_call Tx.ca) (fun _ _ _ _ _ _ us hl => match us, hl with | [_, _, _], _ => rfl)
  have F_Hand_need_begin : Mt P w (K, TT K) mg base (He.ga K "Hand") "need_begin" 2 ["self", "begin"] (sd_Hand_need_begin Tx.ca) := mkMt (cv := fun _ => True) X G c (d := d_Hand_need_begin) (List.mem_of_getElem? (i := 28) rfl) rfl rfl rfl (List.mem_of_getElem? (i := 61) rfl) sc_Hand_need_begin trivial (by intro ds G R EX h; first | (obtain ⟨_, rfl, _⟩ := h; rfl) | (obtain ⟨_, _, rfl, _⟩ := h; rfl) | (obtain ⟨_, _, _, rfl, _⟩ := h; rfl) | (obtain ⟨_, _, _, _, rfl, _⟩ := h; rfl) | (obtain ⟨_, _, _, _, _, rfl, _⟩ := h; rfl) | (obtain ⟨_, _, _, _, _, _, rfl, _⟩ := h; rfl) | (obtain ⟨rfl, _⟩ := h; rfl)) (bd_Hand_need_begin Tx F_is_between) (pure_Hand_need_begin Tx.ca) (fun _ _ _ _ _ _ us hl => match us, hl with | [_, _], _ => rfl)
  have F_Hand_move : Mt P w (K, TT K) mg base (He.ga K "Hand") "move" 4 ["self", "number", "begin"] (sd_Hand_move Tx.ca) := mkMt (cv := fun _ => True) X G c (d := d_Hand_move) (List.mem_of_getElem? (i := 29) rfl) rfl rfl rfl (List.mem_of_getElem? (i := 59) rfl) sc_Hand_move trivial (by intro ds G R EX h; first | (obtain ⟨_, rfl, _⟩ := h; rfl) | (obtain ⟨_, _, rfl, _⟩ := h; rfl) | (obtain ⟨_, _, _, rfl, _⟩ := h; rfl) | (obtain ⟨_, _, _, _, rfl, _⟩ := h; rfl) | (obtain ⟨_, _, _, _, _, rfl, _⟩ := h; rfl) | (obtain ⟨_, _, _, _, _, _, rfl, _⟩ := h; rfl) | (obtain ⟨rfl, _⟩ := h; rfl)) (bd_Hand_move Tx F_Hand_hosted F_Hand_lacking F_Hand_need_begin F_Record_move) (pure_Hand_move Tx.ca) (fun _ _ _ _ _ _ us hl => match us, hl with | [_, _, _], _ => rfl)
  have F_Hand_move_one : Mt P w (K, TT K) mg base (He.ga K "Hand") "move_one" 5 ["self", "number", "k", "begin"] (sd_Hand_move_one Tx.ca) := mkMt (cv := fun _ => True) X G c (d := d_Hand_move_one) (List.mem_of_getElem? (i := 30) rfl) rfl rfl rfl (List.mem_of_getElem? (i := 60) rfl) sc_Hand_move_one trivial (by intro ds G R EX h; first | (obtain ⟨_, rfl, _⟩ := h; rfl) | (obtain ⟨_, _, rfl, _⟩ := h; rfl) | (obtain ⟨_, _, _, rfl, _⟩ := h; rfl) | (obtain ⟨_, _, _, _, rfl, _⟩ := h; rfl) | (obtain ⟨_, _, _, _, _, rfl, _⟩ := h; rfl) | (obtain ⟨_, _, _, _, _, _, rfl, _⟩ := h; rfl) | (obtain ⟨rfl, _⟩ := h; rfl)) (bd_Hand_move_one Tx F_is_between F_Hand_hosted F_Hand_lacking F_Hand_need_begin F_Record_move_one) (pure_Hand_move_one Tx.ca) (fun _ _ _ _ _ _ us hl => match us, hl with | [_, _, _, _], _ => rfl)
  have F_Hand_rename : Mt P w (K, TT K) mg base (He.ga K "Hand") "rename" 4 ["self", "number", "text"] (sd_Hand_rename Tx.ca) := mkMt (cv := fun _ => True) X G c (d := d_Hand_rename) (List.mem_of_getElem? (i := 31) rfl) rfl rfl rfl (List.mem_of_getElem? (i := 63) rfl) sc_Hand_rename trivial (by intro ds G R EX h; first | (obtain ⟨_, rfl, _⟩ := h; rfl) | (obtain ⟨_, _, rfl, _⟩ := h; rfl) | (obtain ⟨_, _, _, rfl, _⟩ := h; rfl) | (obtain ⟨_, _, _, _, rfl, _⟩ := h; rfl) | (obtain ⟨_, _, _, _, _, rfl, _⟩ := h; rfl) | (obtain ⟨_, _, _, _, _, _, rfl, _⟩ := h; rfl) | (obtain ⟨rfl, _⟩ := h; rfl)) (bd_Hand_rename Tx F_is_name F_Hand_hosted F_Hand_lacking F_Record_grow) (pure_Hand_rename Tx.ca) (fun _ _ _ _ _ _ us hl => match us, hl with | [_, _, _], _ => rfl)
  have F_Hand_call_off : Mt P w (K, TT K) mg base (He.ga K "Hand") "call_off" 4 ["self", "number"] (sd_Hand_call_off Tx.ca) := mkMt (cv := fun _ => True) X G c (d := d_Hand_call_off) (List.mem_of_getElem? (i := 32) rfl) rfl rfl rfl (List.mem_of_getElem? (i := 55) rfl) sc_Hand_call_off trivial (by intro ds G R EX h; first | (obtain ⟨_, rfl, _⟩ := h; rfl) | (obtain ⟨_, _, rfl, _⟩ := h; rfl) | (obtain ⟨_, _, _, rfl, _⟩ := h; rfl) | (obtain ⟨_, _, _, _, rfl, _⟩ := h; rfl) | (obtain ⟨_, _, _, _, _, rfl, _⟩ := h; rfl) | (obtain ⟨_, _, _, _, _, _, rfl, _⟩ := h; rfl) | (obtain ⟨rfl, _⟩ := h; rfl)) (bd_Hand_call_off Tx F_Hand_hosted F_Hand_lacking F_Record_grow) (pure_Hand_call_off Tx.ca) (fun _ _ _ _ _ _ us hl => match us, hl with | [_, _], _ => rfl)
  have A_mut : ∀ k, Mt P w (K, TT K) mg base (He.ga K "Hosted") "take" (k + 5) ["self", "hand"] (sd_Hosted_take Tx.ca k) ∧ Mt P w (K, TT K) mg base (He.ga K "Hosted") "add" (k + 5) ["self", "hand", "by"] (sd_Hosted_add Tx.ca k) := fun k => by
    induction k with
    | zero => exact ⟨mkMt0 X G c (d := d_Hosted_take) (List.mem_of_getElem? (i := 39) rfl) rfl rfl rfl (List.mem_of_getElem? (i := 68) rfl) (fun _ _ _ _ h => h) (fun _ _ _ _ _ _ us hl => match us, hl with | [_, _], _ => rfl), mkMt0 X G c (d := d_Hosted_add) (List.mem_of_getElem? (i := 40) rfl) rfl rfl rfl (List.mem_of_getElem? (i := 67) rfl) (fun _ _ _ _ h => h) (fun _ _ _ _ _ _ us hl => match us, hl with | [_, _, _], _ => rfl)⟩
    | succ k ih => exact ⟨mkMt (cv := fun _ => True) X G c (d := d_Hosted_take) (List.mem_of_getElem? (i := 39) rfl) rfl rfl rfl (List.mem_of_getElem? (i := 68) rfl) sc_Hosted_take trivial len_take (bd_Hosted_take Tx ih.2 F_Record_hear F_Record_say_of) (pure_Hosted_take Tx.ca k) (fun _ _ _ _ _ _ us hl => match us, hl with | [_, _], _ => rfl), mkMt (cv := fun _ => True) X G c (d := d_Hosted_add) (List.mem_of_getElem? (i := 40) rfl) rfl rfl rfl (List.mem_of_getElem? (i := 67) rfl) sc_Hosted_add trivial len_add (bd_Hosted_add Tx ih.1 F_Record_add F_Record_hands) (pureA Tx.ca k) (fun _ _ _ _ _ _ us hl => match us, hl with | [_, _, _], _ => rfl)⟩
  have F_Hosted_take := (A_mut 2).1
  have F_Hosted_add := (A_mut 2).2
  have F_Hand_invite : Mt P w (K, TT K) mg base (He.ga K "Hand") "invite" 8 ["self", "number", "hand"] (sd_Hand_invite Tx.ca) := mkMt (cv := fun _ => True) X G c (d := d_Hand_invite) (List.mem_of_getElem? (i := 33) rfl) rfl rfl rfl (List.mem_of_getElem? (i := 57) rfl) sc_Hand_invite trivial (by intro ds G R EX h; first | (obtain ⟨_, rfl, _⟩ := h; rfl) | (obtain ⟨_, _, rfl, _⟩ := h; rfl) | (obtain ⟨_, _, _, rfl, _⟩ := h; rfl) | (obtain ⟨_, _, _, _, rfl, _⟩ := h; rfl) | (obtain ⟨_, _, _, _, _, rfl, _⟩ := h; rfl) | (obtain ⟨_, _, _, _, _, _, rfl, _⟩ := h; rfl) | (obtain ⟨rfl, _⟩ := h; rfl)) (bd_Hand_invite Tx F_Hand_hosted F_Hand_lacking F_Hand_need_guest F_Hosted_add F_Record_hands) (pure_Hand_invite Tx.ca) (fun _ _ _ _ _ _ us hl => match us, hl with | [_, _, _], _ => rfl)
  have F_Hand_uninvite : Mt P w (K, TT K) mg base (He.ga K "Hand") "uninvite" 4 ["self", "number", "hand"] (sd_Hand_uninvite Tx.ca) := mkMt (cv := fun _ => True) X G c (d := d_Hand_uninvite) (List.mem_of_getElem? (i := 34) rfl) rfl rfl rfl (List.mem_of_getElem? (i := 66) rfl) sc_Hand_uninvite trivial (by intro ds G R EX h; first | (obtain ⟨_, rfl, _⟩ := h; rfl) | (obtain ⟨_, _, rfl, _⟩ := h; rfl) | (obtain ⟨_, _, _, rfl, _⟩ := h; rfl) | (obtain ⟨_, _, _, _, rfl, _⟩ := h; rfl) | (obtain ⟨_, _, _, _, _, rfl, _⟩ := h; rfl) | (obtain ⟨_, _, _, _, _, _, rfl, _⟩ := h; rfl) | (obtain ⟨rfl, _⟩ := h; rfl)) (bd_Hand_uninvite Tx F_Hand_hosted F_Hand_lacking F_Hand_need_guest F_Record_drop F_Record_hands) (pure_Hand_uninvite Tx.ca) (fun _ _ _ _ _ _ us hl => match us, hl with | [_, _, _], _ => rfl)
  have F_rows_of : Fn P w (K, TT K) mg base "rows_of" 2 ["plan", "ones"] Pl.sd_rows_of' := mkFn (cv := fun _ => True) X G c (d := d_rows_of) (List.mem_of_getElem? (i := 35) rfl) rfl rfl rfl (List.mem_of_getElem? (i := 10) rfl) sc_rows_of trivial (by intro ds G R EX h; first | (obtain ⟨_, rfl, _⟩ := h; rfl) | (obtain ⟨_, _, rfl, _⟩ := h; rfl) | (obtain ⟨_, _, _, rfl, _⟩ := h; rfl) | (obtain ⟨_, _, _, _, rfl, _⟩ := h; rfl) | (obtain ⟨_, _, _, _, _, rfl, _⟩ := h; rfl) | (obtain ⟨_, _, _, _, _, _, rfl, _⟩ := h; rfl) | (obtain ⟨rfl, _⟩ := h; rfl)) (bd_rows_of Tx F_change_of) Pl.pure_rows_of' (fun _ _ _ _ _ _ us hl => match us, hl with | [_, _], _ => rfl)
  have F_Record_rows : Mt P w (K, TT K) mg base (He.ga K "Record") "rows" 3 ["self"] (sd_Record_rows' Tx.ca) := mkMt (cv := fun _ => True) X G c (d := d_Record_rows) (List.mem_of_getElem? (i := 36) rfl) rfl rfl rfl (List.mem_of_getElem? (i := 77) rfl) sc_Record_rows trivial (by intro ds G R EX h; first | (obtain ⟨_, rfl, _⟩ := h; rfl) | (obtain ⟨_, _, rfl, _⟩ := h; rfl) | (obtain ⟨_, _, _, rfl, _⟩ := h; rfl) | (obtain ⟨_, _, _, _, rfl, _⟩ := h; rfl) | (obtain ⟨_, _, _, _, _, rfl, _⟩ := h; rfl) | (obtain ⟨_, _, _, _, _, _, rfl, _⟩ := h; rfl) | (obtain ⟨rfl, _⟩ := h; rfl)) (bd_Record_rows Tx F_rows_of) (pure_Record_rows' Tx.ca) (fun _ _ _ _ _ _ us hl => match us, hl with | [_], _ => rfl)
  have F_Record_told : Mt P w (K, TT K) mg base (He.ga K "Record") "told" 4 ["self", "host", "number", "me", "mine"] (sd_Record_told' Tx.ca) := mkMt (cv := fun _ => True) X G c (d := d_Record_told) (List.mem_of_getElem? (i := 37) rfl) rfl rfl rfl (List.mem_of_getElem? (i := 79) rfl) sc_Record_told trivial (by intro ds G R EX h; first | (obtain ⟨_, rfl, _⟩ := h; rfl) | (obtain ⟨_, _, rfl, _⟩ := h; rfl) | (obtain ⟨_, _, _, rfl, _⟩ := h; rfl) | (obtain ⟨_, _, _, _, rfl, _⟩ := h; rfl) | (obtain ⟨_, _, _, _, _, rfl, _⟩ := h; rfl) | (obtain ⟨_, _, _, _, _, _, rfl, _⟩ := h; rfl) | (obtain ⟨rfl, _⟩ := h; rfl)) (bd_Record_told Tx F_words_of F_Record_rows F_Record_say_of) (pure_Record_told' Tx.ca) (fun _ _ _ _ _ _ us hl => match us, hl with | [_, _, _, _, _], _ => rfl)
  have F_Hand_book : Mt P w (K, TT K) mg base (He.ga K "Hand") "book" 5 ["self"] (sd_Hand_book' Tx.ca) := mkMt (cv := fun v => v = .ref (He.cT K ("Hand", some "book")).1) X G c (d := d_Hand_book) (List.mem_of_getElem? (i := 38) rfl) rfl rfl rfl (List.mem_of_getElem? (i := 53) rfl) sc_Hand_book rfl (by intro ds G R EX h; first | (obtain ⟨_, rfl, _⟩ := h; rfl) | (obtain ⟨_, _, rfl, _⟩ := h; rfl) | (obtain ⟨_, _, _, rfl, _⟩ := h; rfl) | (obtain ⟨_, _, _, _, rfl, _⟩ := h; rfl) | (obtain ⟨_, _, _, _, _, rfl, _⟩ := h; rfl) | (obtain ⟨_, _, _, _, _, _, rfl, _⟩ := h; rfl) | (obtain ⟨rfl, _⟩ := h; rfl)) (bd_Hand_book Tx F_Record_hands F_Record_told (TBs _ (List.mem_of_getElem? (i := 3) rfl)) (List.mem_of_getElem? (i := 3) rfl) (hu_of nd (List.mem_of_getElem? (i := 3) rfl))) (pure_Hand_book' Tx.ca) (fun _ _ _ _ _ _ us hl => match us, hl with | [_], _ => rfl)
  have F__law_dice : Fn P w (K, TT K) mg base "_law_dice" 1 ["_law_script", "_law_k"] sd__law_dice := mkFn (cv := fun _ => True) X G c (d := d__law_dice) (List.mem_of_getElem? (i := 41) rfl) rfl rfl rfl (List.mem_of_getElem? (i := 11) rfl) sc__law_dice trivial len_dice (bd__law_dice Tx ) pure_dice (fun _ _ _ _ _ _ us hl => match us, hl with | [_, _], _ => rfl)
  have F__law_off : Fn P w (K, TT K) mg base "_law_off" 1 ["_law_d", "_law_most"] sd__law_off := mkFn (cv := fun _ => True) X G c (d := d__law_off) (List.mem_of_getElem? (i := 42) rfl) rfl rfl rfl (List.mem_of_getElem? (i := 12) rfl) sc__law_off trivial len_off (bd__law_off Tx ) pure_offF (fun _ _ _ _ _ _ us hl => match us, hl with | [_, _], _ => rfl)
  have A__law_alike : ∀ k, Fn P w (K, TT K) mg base "_law_alike" k ["_law_found", "_law_due"] (sd__law_alike k) := fun k => by
    induction k with
    | zero => exact mkFn0 X G c (d := d__law_alike) (List.mem_of_getElem? (i := 43) rfl) rfl rfl rfl (List.mem_of_getElem? (i := 13) rfl) (fun _ _ _ _ h => h) (fun _ _ _ _ _ _ us hl => match us, hl with | [_, _], _ => rfl)
    | succ k ih => exact mkFn (cv := fun _ => True) X G c (d := d__law_alike) (List.mem_of_getElem? (i := 43) rfl) rfl rfl rfl (List.mem_of_getElem? (i := 13) rfl) sc__law_alike trivial (len_alike k) (bd__law_alike Tx ih) (pure_alike k) (fun _ _ _ _ _ _ us hl => match us, hl with | [_, _], _ => rfl)
  have F__law_alike := A__law_alike 6
  have F__law_mixed : Fn P w (K, TT K) mg base "_law_mixed" 2 ["_law_d", "_law_row"] Lw.sd__law_mixed := mkFn (cv := fun _ => True) X G c (d := d__law_mixed) (List.mem_of_getElem? (i := 44) rfl) rfl rfl rfl (List.mem_of_getElem? (i := 14) rfl) sc__law_mixed trivial (by intro ds G R EX h; first | (obtain ⟨_, rfl, _⟩ := h; rfl) | (obtain ⟨_, _, rfl, _⟩ := h; rfl) | (obtain ⟨_, _, _, rfl, _⟩ := h; rfl) | (obtain ⟨_, _, _, _, rfl, _⟩ := h; rfl) | (obtain ⟨_, _, _, _, _, rfl, _⟩ := h; rfl) | (obtain ⟨_, _, _, _, _, _, rfl, _⟩ := h; rfl) | (obtain ⟨rfl, _⟩ := h; rfl)) (bd__law_mixed Tx F__law_off) pure__law_mixed (fun _ _ _ _ _ _ us hl => match us, hl with | [_, _], _ => rfl)
  have F__law_plan : Fn P w (K, TT K) mg base "_law_plan" 2 ["_law_d"] Lw.sd__law_plan := mkFn (cv := fun _ => True) X G c (d := d__law_plan) (List.mem_of_getElem? (i := 45) rfl) rfl rfl rfl (List.mem_of_getElem? (i := 15) rfl) sc__law_plan trivial (by intro ds G R EX h; first | (obtain ⟨_, rfl, _⟩ := h; rfl) | (obtain ⟨_, _, rfl, _⟩ := h; rfl) | (obtain ⟨_, _, _, rfl, _⟩ := h; rfl) | (obtain ⟨_, _, _, _, rfl, _⟩ := h; rfl) | (obtain ⟨_, _, _, _, _, rfl, _⟩ := h; rfl) | (obtain ⟨_, _, _, _, _, _, rfl, _⟩ := h; rfl) | (obtain ⟨rfl, _⟩ := h; rfl)) (bd__law_plan Tx F__law_off) pure__law_plan (fun _ _ _ _ _ _ us hl => match us, hl with | [_], _ => rfl)
  have F__law_changed : Fn P w (K, TT K) mg base "_law_changed" 11 ["_law_d", "_law_hand", "_law_m"] (sd__law_changed Tx.ca) := mkFn (cv := fun v => v = .ref (He.cT K ("_law_changed", none)).1) X G c (d := d__law_changed) (List.mem_of_getElem? (i := 46) rfl) rfl rfl rfl (List.mem_of_getElem? (i := 16) rfl) sc__law_changed rfl (by intro ds G R EX h; first | (obtain ⟨_, rfl, _⟩ := h; rfl) | (obtain ⟨_, _, rfl, _⟩ := h; rfl) | (obtain ⟨_, _, _, rfl, _⟩ := h; rfl) | (obtain ⟨_, _, _, _, rfl, _⟩ := h; rfl) | (obtain ⟨_, _, _, _, _, rfl, _⟩ := h; rfl) | (obtain ⟨_, _, _, _, _, _, rfl, _⟩ := h; rfl) | (obtain ⟨rfl, _⟩ := h; rfl)) (bd__law_changed Tx F__law_off F_Hand_invite F_Hand_move F_Hand_move_one F_Hand_rename F_Hand_uninvite FB mB (TBs _ (List.mem_of_getElem? (i := 4) rfl)) (List.mem_of_getElem? (i := 4) rfl) (hu_of nd (List.mem_of_getElem? (i := 4) rfl))) (pure__law_changed Tx.ca) (fun _ _ _ _ _ _ us hl => match us, hl with | [_, _, _], _ => rfl)
  have F__law_told : Fn P w (K, TT K) mg base "_law_told" 1 ["_law_m"] sd__law_told := mkFn (cv := fun _ => True) X G c (d := d__law_told) (List.mem_of_getElem? (i := 47) rfl) rfl rfl rfl (List.mem_of_getElem? (i := 17) rfl) sc__law_told trivial (by intro ds G R EX h; first | (obtain ⟨_, rfl, _⟩ := h; rfl) | (obtain ⟨_, _, rfl, _⟩ := h; rfl) | (obtain ⟨_, _, _, rfl, _⟩ := h; rfl) | (obtain ⟨_, _, _, _, rfl, _⟩ := h; rfl) | (obtain ⟨_, _, _, _, _, rfl, _⟩ := h; rfl) | (obtain ⟨_, _, _, _, _, _, rfl, _⟩ := h; rfl) | (obtain ⟨rfl, _⟩ := h; rfl)) (bd__law_told Tx ) pure__law_told (fun _ _ _ _ _ _ us hl => match us, hl with | [_], _ => rfl)
  exact okF (cv := fun _ => True) Fd sc_law trivial len_law (bd_law Tx F__law_alike F__law_changed F__law_dice F__law_mixed F__law_off F__law_plan F__law_told F_Hand_book F_Hand_call F_Hand_call_off M_Hand) (pure_law _)
end K03
open PySem PySem.W PySem.Calls PyProof.Rows
theorem PySem.Challenge.cw_crosscalls_k03_a_host_alone_holds : PySem.Challenge.rw_crosscalls_k03_a_host_alone.Holds := by
  w_on; o_law
  refine HandSHeadRun.head_any (r := OpenLaw.row PySem.Challenge.rw_crosscalls_k03_a_host_alone) (q := view (OpenLaw.row PySem.Challenge.rw_crosscalls_k03_a_host_alone).prog [48]) (H := K03.hk) (ob := K03.ob) (M := 20000) (loose := (("_wall" : Str) :: ("CallError" : Str) :: ("BadHand" : Str) :: ("BadPlan" : Str) :: ("BadWord" : Str) :: ("NoMeeting" : Str) :: ("HANDS" : Str) :: ("MOST_BEGIN" : Str) :: ("MOST_LONG" : Str) :: ("MOST_EVERY" : Str) :: ("MOST_MANY" : Str) :: ("MOST_NAME" : Str) :: ("LETTERS" : Str) :: ("is_between" : Str) :: ("is_plan" : Str) :: ("need_plan" : Str) :: ("is_name" : Str) :: ("change_of" : Str) :: ("changed" : Str) :: ("rows_of" : Str) :: ("WORDS" : Str) :: ("ASKED" : Str) :: ("PASSED" : Str) :: ("NOTHING" : Str) :: ("oftens_of" : Str) :: ("said_whole" : Str) :: ("word_of" : Str) :: ("words_of" : Str) :: ("Record" : Str) :: ("first_record" : Str) :: ("MOST_GUESTS" : Str) :: ("need_hand" : Str) :: ("Hosted" : Str) :: ("Hand" : Str) :: ("_law_dice" : Str) :: ("_law_off" : Str) :: ("_law_alike" : Str) :: ("_law_mixed" : Str) :: ("_law_plan" : Str) :: ("_law_is_bad" : Str) :: ("_law_changed" : Str) :: ("_law_told" : Str) :: ([] : List Str))) (d := HandSHeadRun.topDef (OpenLaw.row PySem.Challenge.rw_crosscalls_k03_a_host_alone).prog 48) (kwd := []) K03.ob_eq
    (by kernel_rfl) (fun s => by kernel_rfl) K03.run (by kernel_rfl) (by kernel_rfl) (by kernel_rfl) (by rfl) (by first | assumption | decide +kernel) (by decide +kernel) ⟨rfl, rfl, rfl, rfl, rfl, by decide +kernel⟩ ?hw ?hc
  case hw => w_witness2
  case hc =>
    refine LamX.walk_ofTsE (l := PySem.Challenge.rw_crosscalls_k03_a_host_alone) (n := 63) (k := 12) (x := "_law_script") (CX := fun w => L2N.CX (PySem.Challenge.rw_crosscalls_k03_a_host_alone).prog w) rfl (by decide) (by kernel_rfl) ⟨rfl, by decide, by decide⟩ ?F (fun w H s e s' h => Cc.cx_end h)
    intro w mg fa h Y G hmg0
    obtain ⟨K, KX, c⟩ := Y
    have hmg : mg ("law" : PySem.Str) = some (.ref fa) := by
      have e : (HandSHeadRun.topDef (OpenLaw.row PySem.Challenge.rw_crosscalls_k03_a_host_alone).prog 48).name = ("law" : PySem.Str) := by kernel_rfl
      rw [← e]
      exact hmg0
    have hT : ∀ p ∈ K03.TT K, ∃ q ∈ K03.tfs, (He.cT K q).2 = p.1 := fun p hp => by
      simp only [K03.TT, List.mem_cons, List.not_mem_nil, or_false] at hp
      rcases hp with hp | hp | hp | hp | hp
      all_goals subst hp
      · exact ⟨_, List.mem_of_getElem? (i := 0) rfl, rfl⟩
      · exact ⟨_, List.mem_of_getElem? (i := 1) rfl, rfl⟩
      · exact ⟨_, List.mem_of_getElem? (i := 2) rfl, rfl⟩
      · exact ⟨_, List.mem_of_getElem? (i := 3) rfl, rfl⟩
      · exact ⟨_, List.mem_of_getElem? (i := 4) rfl, rfl⟩
    exact ⟨K, KX, Cc.law_at (T := K03.TT K) (d := K03.d_law) rfl KX c G hmg (List.mem_of_getElem? (i := 48) rfl) rfl rfl rfl (List.mem_of_getElem? (i := 18) rfl) hT (fun _ _ _ _ _ _ us hl => match us, hl with | [_], _ => rfl) fun base _ _ TBs fd Fd => K03.ends KX G c TBs Fd⟩
