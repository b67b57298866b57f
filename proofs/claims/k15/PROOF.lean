import PyProof.Rows.All
import Wide.All
import OpenK.AllK
import Wide.FinOn
import HandS.ForMost
import HandS.ForExc
import HandS.Lambda
import HandS.TupAny
import HandS.IsInst
import HandS.Deep
import HandS.Conv
import HandS.Codes
import HandS.Keys
import HandS.Defaults
import HandS.SetKeys
import KE.SortKeyHeap
import KE.SortData
import HandS.SortKw
import HandS.Style
import KE.KStateDown
import HandS.Head0
import HandS.Head1
import HandS.Head2
import HandS.HeadEnd
import HandS.HeadHook4
import HandS.HeadWalk
import HandS.NestedK
import PySem.Challenge.RW_crosscalls_k15_clashes_of_books
import Lean
set_option Elab.async false
set_option linter.all false
set_option maxRecDepth 100000
set_option maxHeartbeats 0
/-! ### data: tuples are values; what changes is an address -/
namespace Cc
open PySem PySem.Spec PyProof.Rows L2

inductive D where
  | non | bl (b : Bool) | int (i : Int) | str (x : Str) | ty (n : String) | ref (a : Addr) | tup (l : List D) | rol (l : List D) | key (ks : List Key)

/-- what the top wrote, and the tables of code objects with their names -/
abbrev KT : Type := PySem.W.Frag × List (Addr × Str)
/-- a list that nobody changes: known, or written -/
def SqR (K : PySem.W.Frag) (H : Hp) (a : Addr) (xs : List V) : Prop :=
  (∃ o, H a = some (.frz o (.lst xs))) ∨ ∃ o its n, K.lookup a = some o ∧ o.cls = Value.type "list" ∧ o.dict = none ∧ o.data = Data.seq its n ∧ its.size ≤ sizeLine ∧ Vals xs its.toList
theorem SqR.sqL {K : PySem.W.Frag} {H : Hp} {a : Addr} {xs : List V} (h : SqR K H a xs) : SqL K H a xs := by
  rcases h with ⟨o, h⟩ | h
  · exact .inl (.inr ⟨o, h⟩)
  · exact .inr h

mutual
inductive Dv (K : KT) (H : Hp) : V → D → Prop
  | non : Dv K H .non .non
  | bl (b : Bool) : Dv K H (.bl b) (.bl b)
  | int (i : Int) : Dv K H (.int i) (.int i)
  | str (x : Str) : Dv K H (.str x) (.str x)
  | ty (n : String) : Dv K H (.ty n) (.ty n)
  | ref (a : Addr) : Dv K H (.ref a) (.ref a)
  | tup {a : Addr} {xs : List V} {l : List D} : SqT K.1 H a xs → DvL K H xs l → Dv K H (.ref a) (.tup l)
  | rol {a : Addr} {xs : List V} {l : List D} : SqR K.1 H a xs → DvL K H xs l → Dv K H (.ref a) (.rol l)
  | key {a : Addr} {ks : List Key} : H a = some (.tup (ks.map kV)) → Dv K H (.ref a) (.key ks)
inductive DvL (K : KT) (H : Hp) : List V → List D → Prop
  | nil : DvL K H [] []
  | cons {v : V} {vs : List V} {d : D} {ds : List D} : Dv K H v d → DvL K H vs ds → DvL K H (v :: vs) (d :: ds)
end

/-- what no step undoes -/
structure Up (H H' : Hp) : Prop where
  tups : ∀ a xs, H a = some (.tup xs) → H' a = some (.tup xs)
  frzs : ∀ a o u, H a = some (.frz o u) → H' a = some (.frz o u)
  code : ∀ a q, H a = some (LamX.CodeO a q) → H' a = some (LamX.CodeO a q)
theorem Up.refl (H : Hp) : Up H H := ⟨fun _ _ h => h, fun _ _ _ h => h, fun _ _ h => h⟩
theorem Up.trans {H H1 H2 : Hp} (a : Up H H1) (b : Up H1 H2) : Up H H2 :=
  ⟨fun c xs h => b.tups c xs (a.tups c xs h), fun c o u h => b.frzs c o u (a.frzs c o u h), fun c q h => b.code c q (a.code c q h)⟩
theorem Up.new {H : Hp} {p : Addr} {o : HO} (h : H p = none) : Up H (upd H p o) :=
  ⟨fun a _ e => by rw [upd_ne (ne_of_none e h)]; exact e, fun a _ _ e => by rw [upd_ne (ne_of_none e h)]; exact e, fun a _ e => by rw [upd_ne (ne_of_none e h)]; exact e⟩
/-- what a store may change -/
def Wr : HO → Prop
  | .lst _ => True
  | .dK _ => True
  | .dT _ => True
  | .ins _ _ _ => True
  | .set _ _ => True
  | .xd _ => True
  | _ => False
theorem Up.put {H : Hp} {p : Addr} {o0 o : HO} (h : H p = some o0) (w : Wr o0) : Up H (upd H p o) := by
  have ne : ∀ a u, H a = some u → ¬ Wr u → a ≠ p := fun a u e n z => by
    subst z
    rw [h] at e
    cases e
    exact n w
  exact ⟨fun a xs e => by rw [upd_ne (ne a _ e (fun z => z))]; exact e, fun a _ _ e => by rw [upd_ne (ne a _ e (fun z => z))]; exact e,
    fun a _ e => by rw [upd_ne (ne a _ e (fun z => z))]; exact e⟩
section
variable {K : KT} {H H' H'' : Hp} {G G' : Addr → Option HO}
theorem Up.sqT {F : PySem.W.Frag} (u : Up H H') {a : Addr} {xs : List V} (h : SqT F H a xs) : SqT F H' a xs := by
  rcases h with (h | ⟨o, h⟩) | h
  · exact .inl (.inl (u.tups _ _ h))
  · exact .inl (.inr ⟨o, u.frzs _ _ _ h⟩)
  · exact .inr h
theorem Up.sqR {F : PySem.W.Frag} (u : Up H H') {a : Addr} {xs : List V} (h : SqR F H a xs) : SqR F H' a xs := by
  rcases h with ⟨o, h⟩ | h
  · exact .inl ⟨o, u.frzs _ _ _ h⟩
  · exact .inr h
mutual
theorem Dv.up (u : Up H H') : ∀ {v : V} {d : D}, Dv K H v d → Dv K H' v d
  | _, _, .non => .non
  | _, _, .bl b => .bl b
  | _, _, .int i => .int i
  | _, _, .str x => .str x
  | _, _, .ty n => .ty n
  | _, _, .ref a => .ref a
  | _, _, .tup h r => .tup (u.sqT h) (DvL.up u r)
  | _, _, .rol h r => .rol (u.sqR h) (DvL.up u r)
  | _, _, .key h => .key (u.tups _ _ h)
theorem DvL.up (u : Up H H') : ∀ {v : List V} {d : List D}, DvL K H v d → DvL K H' v d
  | _, _, .nil => .nil
  | _, _, .cons h r => .cons (Dv.up u h) (DvL.up u r)
end
/-- a key as a value -/
def kD : Key → D
  | .inl i => .int i
  | .inr x => .str x
theorem dv_kD (k : Key) : Dv K H (kV k) (kD k) := by
  cases k with
  | inl i => exact .int i
  | inr x => exact .str x
theorem dvL_kD : ∀ ks : List Key, DvL K H (ks.map kV) (ks.map kD)
  | [] => .nil
  | k :: ks => .cons (dv_kD k) (dvL_kD ks)
/-- a tuple's items -/
def D.tl : D → Option (List D)
  | .tup l => some l
  | .key ks => some (ks.map kD)
  | _ => none
theorem Dv.sqT {v : V} {d : D} {l : List D} (h : Dv K H v d) (e : d.tl = some l) : ∃ a xs, v = .ref a ∧ SqT K.1 H a xs ∧ DvL K H xs l := by
  cases h with
  | tup q r => cases e; exact ⟨_, _, rfl, q, r⟩
  | key q => cases e; exact ⟨_, _, rfl, SqT.of q, dvL_kD _⟩
  | _ => cases e
theorem DvL.length : ∀ {v : List V} {d : List D}, DvL K H v d → v.length = d.length
  | _, _, .nil => rfl
  | _, _, .cons _ r => congrArg (· + 1) (DvL.length r)
theorem DvL.append : ∀ {v w : List V} {d e : List D}, DvL K H v d → DvL K H w e → DvL K H (v ++ w) (d ++ e)
  | _, _, _, _, .nil, s => s
  | _, _, _, _, .cons h r, s => .cons h (DvL.append r s)
theorem DvL.get : ∀ {v : List V} {d : List D} {i : Nat} {x : D}, DvL K H v d → d[i]? = some x → ∃ u, v[i]? = some u ∧ Dv K H u x
  | _, _, _, _, .nil, e => by simp at e
  | _, _, 0, _, .cons h _, e => by simp at e; subst e; exact ⟨_, rfl, h⟩
  | _, _, i + 1, _, .cons _ r, e => by
    obtain ⟨u, h1, h2⟩ := DvL.get (i := i) r (by simpa using e)
    exact ⟨u, by simpa using h1, h2⟩
theorem DvL.get' : ∀ {v : List V} {d : List D} {i : Nat} {u : V}, DvL K H v d → v[i]? = some u → ∃ x, d[i]? = some x ∧ Dv K H u x
  | _, _, _, _, .nil, e => by simp at e
  | _, _, 0, _, .cons h _, e => by simp at e; subst e; exact ⟨_, rfl, h⟩
  | _, _, i + 1, _, .cons _ r, e => by
    obtain ⟨u, h1, h2⟩ := DvL.get' (i := i) r (by simpa using e)
    exact ⟨u, by simpa using h1, h2⟩
theorem DvL.set {u : V} {x : D} (h : Dv K H u x) : ∀ {v : List V} {d : List D} (i : Nat), DvL K H v d → DvL K H (v.set i u) (d.set i x)
  | _, _, _, .nil => .nil
  | _, _, 0, .cons _ r => .cons h r
  | _, _, i + 1, .cons g r => .cons g (DvL.set h i r)
theorem DvL.eraseIdx : ∀ {v : List V} {d : List D} (i : Nat), DvL K H v d → DvL K H (v.eraseIdx i) (d.eraseIdx i)
  | _, _, _, .nil => .nil
  | _, _, 0, .cons _ r => r
  | _, _, i + 1, .cons g r => .cons g (DvL.eraseIdx i r)
theorem DvL.take : ∀ {v : List V} {d : List D} (n : Nat), DvL K H v d → DvL K H (v.take n) (d.take n)
  | _, _, 0, _ => .nil
  | _, _, _ + 1, .nil => .nil
  | _, _, n + 1, .cons r t => .cons r (DvL.take n t)
theorem DvL.drop : ∀ {v : List V} {d : List D} (n : Nat), DvL K H v d → DvL K H (v.drop n) (d.drop n)
  | _, _, 0, r => r
  | _, _, _ + 1, .nil => .nil
  | _, _, n + 1, .cons _ t => DvL.drop n t
theorem DvL.dropLast {v : List V} {d : List D} (h : DvL K H v d) : DvL K H v.dropLast d.dropLast := by
  rw [List.dropLast_eq_take, List.dropLast_eq_take, h.length]
  exact h.take _
end

/-! ### cells -/
inductive C where
  | lst (l : List D)
  | dK (kvs : List (Key × D)) | dT (kvs : List (List Key × D))
  | ins (cl : Addr) (fs : List (Str × D))
  | xd (fs : List (Str × D))
abbrev DH := Addr → Option C
def updD (G : DH) (a : Addr) (c : C) : DH := fun b => if b = a then some c else G b
theorem updD_same {G : DH} {a : Addr} {c : C} : updD G a c a = some c := by unfold updD; rw [if_pos rfl]
theorem updD_ne {G : DH} {a b : Addr} {c : C} (h : b ≠ a) : updD G a c b = G b := by unfold updD; rw [if_neg h]
theorem updD_updD {G : DH} {a : Addr} {c d : C} : updD (updD G a c) a d = updD G a d := by
  funext b; unfold updD; split <;> rfl
def Sub (G G' : DH) : Prop := ∀ a c, G a = some c → G' a = some c
theorem Sub.refl (G : DH) : Sub G G := fun _ _ h => h
theorem Sub.trans {G G1 G2 : DH} (a : Sub G G1) (b : Sub G1 G2) : Sub G G2 := fun x c h => b x c (a x c h)
theorem Sub.new {G : DH} {p : Addr} {c : C} (h : G p = none) : Sub G (updD G p c) := fun a u e => by
  rw [updD_ne (fun z => by subst z; rw [h] at e; cases e)]
  exact e
theorem neD {G : DH} {a b : Addr} {c : C} (h : G a = some c) (h' : G b = none) : a ≠ b := fun z => by
  subst z; rw [h] at h'; cases h'
theorem neDD {G : DH} {a b : Addr} {c d : C} (h : G a = some c) (h' : G b = some d) (n : c ≠ d) : a ≠ b := fun z => by
  subst z; rw [h] at h'; exact n (Option.some.inj h')
abbrev KVr (K : KT) (H : Hp) {κ : Type} : List (κ × V) → List (κ × D) → Prop := Paired fun p q => p.1 = q.1 ∧ Dv K H p.2 q.2
def CRel (K : KT) (H : Hp) (a : Addr) : C → Prop
  | .lst l => ∃ xs, H a = some (.lst xs) ∧ DvL K H xs l
  | .dK kvs => ∃ ys, H a = some (.dK ys) ∧ KVr K H ys kvs
  | .dT kvs => ∃ ys, H a = some (.dT ys) ∧ KVr K H ys kvs
  | .ins cl fs => ∃ dx ys, H a = some (.ins cl dx ys) ∧ KVr K H ys fs
  | .xd fs => ∃ ys, H a = some (.xd ys) ∧ KVr K H ys fs
structure HRel (K : KT) (G : DH) (H : Hp) : Prop where
  c : ∀ a c, G a = some c → CRel K H a c
  t : LamX.Tabs K.2 H
instance {K : KT} {G : DH} {H : Hp} : CoeFun (HRel K G H) (fun _ => ∀ a c, G a = some c → CRel K H a c) := ⟨HRel.c⟩
section
variable {K : KT} {H H' : Hp} {G G' : DH} {a p : Addr} {c : C} {o o0 : HO}
theorem KVr.up {κ : Type} (u : Up H H') {xs : List (κ × V)} {ys : List (κ × D)} (h : KVr K H xs ys) : KVr K H' xs ys :=
  Paired.mapP h fun _ _ q => ⟨q.1, q.2.up u⟩
theorem CRel.some (h : CRel K H a c) : ∃ o, H a = some o := by
  cases c with
  | lst l => obtain ⟨xs, e, _⟩ := h; exact ⟨_, e⟩
  | dK l => obtain ⟨xs, e, _⟩ := h; exact ⟨_, e⟩
  | dT l => obtain ⟨xs, e, _⟩ := h; exact ⟨_, e⟩
  | ins cl fs => obtain ⟨dx, xs, e, _⟩ := h; exact ⟨_, e⟩
  | xd l => obtain ⟨xs, e, _⟩ := h; exact ⟨_, e⟩
theorem CRel.stay (u : Up H H') (e : H' a = H a) (h : CRel K H a c) : CRel K H' a c := by
  cases c with
  | lst l => obtain ⟨xs, q, r⟩ := h; exact ⟨xs, e.trans q, r.up u⟩
  | dK l => obtain ⟨xs, q, r⟩ := h; exact ⟨xs, e.trans q, r.up u⟩
  | dT l => obtain ⟨xs, q, r⟩ := h; exact ⟨xs, e.trans q, r.up u⟩
  | ins cl fs => obtain ⟨dx, xs, q, r⟩ := h; exact ⟨dx, xs, e.trans q, r.up u⟩
  | xd l => obtain ⟨xs, q, r⟩ := h; exact ⟨xs, e.trans q, r.up u⟩
theorem tabs_new (h : LamX.Tabs K.2 H) (e : H p = Option.none) : LamX.Tabs K.2 (upd H p o) := h.ext fun b u z => by
  rw [upd_ne (ne_of_none z e)]; exact z
theorem tabs_put (h : LamX.Tabs K.2 H) (e : H p = some o0) (w : Wr o0) : LamX.Tabs K.2 (upd H p o) := fun x hx => by
  obtain ⟨ps, h1, h2, h3⟩ := h x hx
  have u : Up H (upd H p o) := Up.put e w
  refine ⟨ps, ?_, h2, fun pos cv z => ?_⟩
  · rw [upd_ne (fun z => by subst z; rw [h1] at e; cases e; exact w)]; exact h1
  · obtain ⟨c0, e1, e2⟩ := h3 pos cv z
    exact ⟨c0, e1, u.code _ _ e2⟩
theorem HRel.none (h : HRel K G H) (e : H p = Option.none) : G p = Option.none := by
  cases q : G p with
  | none => rfl
  | some c =>
    obtain ⟨o, z⟩ := (h p c q).some
    rw [e] at z; cases z
theorem HRel.new0 (h : HRel K G H) (e : H p = Option.none) : HRel K G (upd H p o) := ⟨fun a c q => by
  obtain ⟨u, z⟩ := (h a c q).some
  exact (h a c q).stay (Up.new e) (upd_ne (ne_of_none z e)), tabs_new h.t e⟩
theorem HRel.new (h : HRel K G H) (e : H p = Option.none) (r : CRel K (upd H p o) p c) : HRel K (updD G p c) (upd H p o) := ⟨fun a c' q => by
  by_cases hb : a = p
  · subst hb; rw [updD_same] at q; cases q; exact r
  · rw [updD_ne hb] at q
    exact (h a c' q).stay (Up.new e) (upd_ne hb), tabs_new h.t e⟩
theorem HRel.put (h : HRel K G H) (e : H p = some o0) (w : Wr o0) (r : CRel K (upd H p o) p c) : HRel K (updD G p c) (upd H p o) := ⟨fun a c' q => by
  by_cases hb : a = p
  · subst hb; rw [updD_same] at q; cases q; exact r
  · rw [updD_ne hb] at q
    exact (h a c' q).stay (Up.put e w) (upd_ne hb), tabs_put h.t e w⟩
theorem HRel.sub (h : HRel K G H) (s : Sub G' G) : HRel K G' H := ⟨fun a c q => h a c (s a c q), h.t⟩
end

/-! ### the lift -/
abbrev DS := List (Option D)
abbrev DK := D → DH → Prop
abbrev DX := Value → Option Addr → DH → Prop
abbrev DE := DS → DH → DK → DX → Prop
abbrev DT := DS → DH → (Bool → DH → Prop) → DX → Prop
abbrev DA := DS → DH → (List D → DH → Prop) → DX → Prop
structure DEnds where
  nx : DS → DH → Prop
  rt : DK
  bk : DS → DH → Prop := fun _ _ => False
  ct : DS → DH → Prop := fun _ _ => False
  ex : DX := fun _ _ _ => False
abbrev DSt := DEnds → DS → DH → Prop
abbrev SpD := List D → DH → DK → DX → Prop
abbrev D2 := D → D → DH → DK → Prop

def SRel (K : KT) (H : Hp) (σ : L2.St) (δ : DS) : Prop := σ.length = δ.length ∧ ∀ (i : Nat) (d : D), δ[i]? = some (some d) → ∃ v, σ[i]? = some (some v) ∧ Dv K H v d
def CloX (K : KT) (H : Hp) (E : XK) (EX : DX) : Prop := ∀ c o H' G', Up H H' → HRel K G' H' → EX c o G' → E c o H'
def CloR (K : KT) (H : Hp) (Q : VK) (R : DK) : Prop := ∀ v H' d G', Up H H' → HRel K G' H' → Dv K H' v d → R d G' → Q v H'
def CloB (K : KT) (H : Hp) (Q : Bool → Hp → Prop) (R : Bool → DH → Prop) : Prop := ∀ b H' G', Up H H' → HRel K G' H' → R b G' → Q b H'
def CloA (K : KT) (H : Hp) (Q : List V → Hp → Prop) (R : List D → DH → Prop) : Prop := ∀ v H' d G', Up H H' → HRel K G' H' → DvL K H' v d → R d G' → Q v H'
def CloS (K : KT) (H : Hp) (Q : L2.St → Hp → Prop) (R : DS → DH → Prop) : Prop := ∀ σ' H' δ' G', Up H H' → SRel K H' σ' δ' → HRel K G' H' → R δ' G' → Q σ' H'
def up (K : KT) (E : XK) (de : DE) : TE := fun σ H Q => ∃ δ G R EX, SRel K H σ δ ∧ HRel K G H ∧ de δ G R EX ∧ CloR K H Q R ∧ CloX K H E EX
def upT (K : KT) (E : XK) (de : DT) : TT := fun σ H Q => ∃ δ G R EX, SRel K H σ δ ∧ HRel K G H ∧ de δ G R EX ∧ CloB K H Q R ∧ CloX K H E EX
def upA (K : KT) (E : XK) (de : DA) : TA := fun σ H Q => ∃ δ G R EX, SRel K H σ δ ∧ HRel K G H ∧ de δ G R EX ∧ CloA K H Q R ∧ CloX K H E EX
def upS (K : KT) (E : XK) (ds : DSt) : TS := fun Dn σ H => ∃ δ G DD, SRel K H σ δ ∧ HRel K G H ∧ ds DD δ G ∧ CloS K H Dn.nx DD.nx ∧ CloR K H Dn.rt DD.rt ∧ CloS K H Dn.bk DD.bk ∧ CloS K H Dn.ct DD.ct ∧ CloX K H E DD.ex
def upF (K : KT) (sd : SpD) : Sp := fun vs H Q E => ∃ ds G R EX, DvL K H vs ds ∧ HRel K G H ∧ sd ds G R EX ∧ CloR K H Q R ∧ CloX K H E EX
section
variable {K : KT} {H H' : Hp} {σ : L2.St} {δ : DS}
theorem SRel.up (u : Up H H') (h : SRel K H σ δ) : SRel K H' σ δ := ⟨h.1, fun i d e => by
  obtain ⟨v, a, b⟩ := h.2 i d e
  exact ⟨v, a, b.up u⟩⟩
theorem SRel.set {i : Nat} {v : V} {d : D} (h : SRel K H σ δ) (r : Dv K H v d) : SRel K H (σ.set i (some v)) (δ.set i (some d)) := by
  refine ⟨by rw [List.length_set, List.length_set]; exact h.1, fun j e q => ?_⟩
  by_cases hb : i = j
  · subst hb
    by_cases hl : i < δ.length
    · rw [List.getElem?_set_self hl] at q
      cases q
      exact ⟨v, List.getElem?_set_self (by rw [h.1]; exact hl), r⟩
    · rw [List.getElem?_eq_none (by rw [List.length_set]; omega)] at q
      cases q
  · rw [List.getElem?_set_ne hb] at q ⊢
    exact h.2 j e q
theorem CloX.up {E : XK} {EX : DX} (u : Up H H') (h : CloX K H E EX) : CloX K H' E EX := fun c o H2 G2 u2 r q => h c o H2 G2 (u.trans u2) r q
theorem CloR.up {Q : VK} {R : DK} (u : Up H H') (h : CloR K H Q R) : CloR K H' Q R := fun v H2 d G2 u2 r q x => h v H2 d G2 (u.trans u2) r q x
theorem CloB.up {Q : Bool → Hp → Prop} {R : Bool → DH → Prop} (u : Up H H') (h : CloB K H Q R) : CloB K H' Q R := fun v H2 G2 u2 r x => h v H2 G2 (u.trans u2) r x
theorem CloA.up {Q : List V → Hp → Prop} {R : List D → DH → Prop} (u : Up H H') (h : CloA K H Q R) : CloA K H' Q R := fun v H2 d G2 u2 r q x => h v H2 d G2 (u.trans u2) r q x
theorem CloS.up {Q : L2.St → Hp → Prop} {R : DS → DH → Prop} (u : Up H H') (h : CloS K H Q R) : CloS K H' Q R := fun s H2 d G2 u2 r q x => h s H2 d G2 (u.trans u2) r q x
end
/-- the wish of an error, the tables -/
abbrev EK : Type := XK × List (Addr × Str)
abbrev kt (X : Cx) (E : EK) : KT := (X.K, E.2)
structure PD (X : Cx) (E : EK) (e : Expr) (de : DE) : Prop where
  pe : PE X e (up (kt X E) E.1 de)
structure PDT (X : Cx) (E : EK) (e : Expr) (de : DT) : Prop where
  pt : PT X e (upT (kt X E) E.1 de)
structure PDW (X : Cx) (E : EK) (e : Expr) (de : DT) : Prop where
  pw : PW X e (upT (kt X E) E.1 de)
structure PDA (X : Cx) (E : EK) (e : List Expr) (de : DA) : Prop where
  pa : PA X e (upA (kt X E) E.1 de)
structure PDS (X : Cx) (E : EK) (st : Stmt) (ds : DSt) : Prop where
  ps : PS X st (upS (kt X E) E.1 ds)
structure PDSs (X : Cx) (E : EK) (st : List Stmt) (ds : DSt) : Prop where
  ps : PSs X st (upS (kt X E) E.1 ds)
theorem imE {X : Cx} {e : Expr} {t u : TE} (h : PE X e t) (k : ∀ σ H Q, u σ H Q → t σ H Q) : PE X e u := ⟨fun pins s σ H Q I q => h.run pins s σ H Q I (k σ H Q q)⟩
theorem imT {X : Cx} {e : Expr} {t u : TT} (h : PT X e t) (k : ∀ σ H Q, u σ H Q → t σ H Q) : PT X e u := ⟨fun pins s σ H Q I q => h.run pins s σ H Q I (k σ H Q q)⟩
theorem imW {X : Cx} {e : Expr} {t u : TT} (h : PW X e t) (k : ∀ σ H Q, u σ H Q → t σ H Q) : PW X e u := ⟨fun w pins s σ H Q I q => h.run w pins s σ H Q I (k σ H Q q)⟩
theorem imA {X : Cx} {e : List Expr} {t u : TA} (h : PA X e t) (k : ∀ σ H Q, u σ H Q → t σ H Q) : PA X e u := ⟨fun w pins s σ H Q I q => h.run w pins s σ H Q I (k σ H Q q)⟩
theorem imS {X : Cx} {e : Stmt} {t u : TS} (h : PS X e t) (k : ∀ D σ H, u D σ H → t D σ H) : PS X e u := ⟨fun pins s σ H Q I q => h.run pins s σ H Q I (k Q σ H q)⟩
theorem imSs {X : Cx} {e : List Stmt} {t u : TS} (h : PSs X e t) (k : ∀ D σ H, u D σ H → t D σ H) : PSs X e u := ⟨fun pins s σ H Q I q => h.run pins s σ H Q I (k Q σ H q)⟩
end Cc
/-! ### the rules: expressions, tests, statements -/
namespace Cc
open PySem PySem.Spec PyProof.Rows L2
section
variable {X : Cx} {E : EK} {a b c e : Expr} {es rest : List Expr} {pos : Pos} {da db dc de : DE} {dA dB : DT} {dl : DA}
/-! names, constants -/
def dVar (i : Nat) : DE := fun δ G R _ => match δ[i]? with
  | some (some d) => R d G
  | _ => False
def dC (d : D) : DE := fun _ G R _ => R d G
theorem pd_var (i : Nat) {x : Str} (h : PE X (.Name x pos) (tVar i)) : PD X E (.Name x pos) (dVar i) := ⟨imE h fun σ H Q ⟨δ, G, R, EX, sr, hr, h, cr, cx⟩ => by
  unfold dVar at h
  split at h
  · rename_i d e
    obtain ⟨v, e1, r⟩ := sr.2 _ _ e
    exact ⟨v, e1, cr v H d G (Up.refl H) hr r h⟩
  · exact h.elim⟩
theorem pd_c {v : V} {d : D} (h : PE X e (tC v)) (hd : ∀ H, Dv (kt X E) H v d) : PD X E e (dC d) := ⟨imE h fun σ H Q ⟨δ, G, R, EX, sr, hr, h, cr, cx⟩ => cr v H d G (Up.refl H) hr (hd H) h⟩
theorem pd_int {i : Int} {j} : PD X E (.Constant (.int i) j pos) (dC (.int i)) := pd_c pe_int fun _ => .int i
theorem pd_bl {i : Bool} {j} : PD X E (.Constant (.bool i) j pos) (dC (.bl i)) := pd_c pe_bl fun _ => .bl i
theorem pd_str {i : Str} {j} : PD X E (.Constant (.str i) j pos) (dC (.str i)) := pd_c pe_str fun _ => .str i
theorem pd_non {j} : PD X E (.Constant .none j pos) (dC .non) := pd_c pe_non fun _ => .non
/-- a name of the module -/
def GloC (K : PySem.W.Frag) (mg : Str → Option Value) (x : Str) (d : D) : Prop := ∃ v u, mg x = some u ∧ RelV v u ∧ ∀ T H, Dv (K, T) H v d
theorem pd_glob {x : Str} {d : D} (hg : Gl X x) (hm : GloC X.K X.mg x d) (hd : (x == ("__debug__" : Str)) = false := by decide) : PD X E (.Name x pos) (dC d) := by
  obtain ⟨v, u, h1, h2, h3⟩ := hm
  exact pd_c (pe_glob hg h1 h2 hd) (h3 E.2)
/-! operators -/
def Lift2 (K : KT) (r : R2) (r2 : D2) : Prop := ∀ x y H d e G R Q, HRel K G H → Dv K H x d → Dv K H y e → r2 d e G R → CloR K H Q R → r x y H Q
def dOp (r : D2) (da db : DE) : DE := fun δ G R EX => da δ G (fun x G1 => db δ G1 (fun y G2 => r x y G2 R) EX) EX
theorem up_op {r : R2} {r2 : D2} (l : ∀ T, Lift2 (X.K, T) r r2) {σ : L2.St} {H : Hp} {Q : VK} : up (kt X E) E.1 (dOp r2 da db) σ H Q → tOp r (up (kt X E) E.1 da) (up (kt X E) E.1 db) σ H Q := fun ⟨δ, G, R, EX, sr, hr, h, cr, cx⟩ =>
  ⟨δ, G, _, EX, sr, hr, h, fun x H1 d G1 u1 h1 r1 q1 => ⟨δ, G1, _, EX, sr.up u1, h1, q1, fun y H2 e G2 u2 h2 r2 q2 => l _ x y H2 d e G2 R Q h2 (r1.up u2) r2 q2 (cr.up (u1.trans u2)), cx.up u1⟩, cx⟩
theorem pd_op {op : Operator} {r : R2} {r2 : D2} (ho : OpR X (binaryOp op) r) (l : ∀ T, Lift2 (X.K, T) r r2) (ha : PD X E a da) (hb : PD X E b db) : PD X E (.BinOp a op b pos) (dOp r2 da db) :=
  ⟨imE (pe_op ho ha.pe hb.pe) fun _ _ _ => up_op l⟩
theorem pd_cmp {op : CmpOp} {r : R2} {r2 : D2} (ho : OpR X (compareOp op) r) (l : ∀ T, Lift2 (X.K, T) r r2) (ha : PD X E a da) (hb : PD X E b db) (hm : behindInMarks op b = false) : PD X E (.Compare a [op] [b] pos) (dOp r2 da db) :=
  ⟨imE (pe_cmpR ho ha.pe hb.pe hm) fun _ _ _ => up_op l⟩
theorem pd_ix {r : R2} {r2 : D2} (hr : IxR X r) (l : ∀ T, Lift2 (X.K, T) r r2) (ha : PD X E a da) (hb : PD X E b db) (hs : PlainIx b) : PD X E (.Subscript a b pos) (dOp r2 da db) :=
  ⟨imE (pe_ix hr ha.pe hb.pe hs) fun _ _ _ => up_op l⟩
abbrev D1 := D → DH → DK → Prop
def Lift1 (K : KT) (r : V → Hp → VK → Prop) (r2 : D1) : Prop := ∀ x H d G R Q, HRel K G H → Dv K H x d → r2 d G R → CloR K H Q R → r x H Q
def dUn (r : D1) (da : DE) : DE := fun δ G R EX => da δ G (fun x G1 => r x G1 R) EX
theorem pd_un {op : UnaryOp} {r : V → Hp → VK → Prop} {r2 : D1} (ho : UnR X (unaryOp op) r) (l : ∀ T, Lift1 (X.K, T) r r2) (ha : PD X E a da) : PD X E (.UnaryOp op a pos) (dUn r2 da) :=
  ⟨imE (pe_un ho ha.pe) fun σ H Q ⟨δ, G, R, EX, sr, hr, h, cr, cx⟩ => ⟨δ, G, _, EX, sr, hr, h, fun x H1 d G1 u1 h1 r1 q1 => l _ x H1 d G1 R Q h1 r1 q1 (cr.up u1), cx⟩⟩
/-- a test from a truth value -/
def blD (R : Bool → DH → Prop) : DK := fun x G => match x with
  | .bl c => R c G
  | _ => False
theorem CloB.bl {H : Hp} {Q : Bool → Hp → Prop} {R : Bool → DH → Prop} (cr : CloB (kt X E) H Q R) : CloR (kt X E) H (fun x H' => ∃ c, x = .bl c ∧ Q c H') (blD R) := fun x H1 d G1 u1 h1 r1 q1 => by
  cases r1 with
  | bl c => exact ⟨c, rfl, cr c H1 G1 u1 h1 q1⟩
  | _ => exact False.elim q1
def dTest (da : DE) : DT := fun δ G R EX => da δ G (blD R) EX
theorem up_test {σ : L2.St} {H : Hp} {Q : Bool → Hp → Prop} : upT (kt X E) E.1 (dTest da) σ H Q → tTest (up (kt X E) E.1 da) σ H Q := fun ⟨δ, G, R, EX, sr, hr, h, cr, cx⟩ =>
  ⟨δ, G, _, EX, sr, hr, h, cr.bl, cx⟩
theorem pdt_cmp {op : CmpOp} {r : R2} {r2 : D2} (ho : OpR X (compareOp op) r) (l : ∀ T, Lift2 (X.K, T) r r2) (ha : PD X E a da) (hb : PD X E b db) (hm : behindInMarks op b = false) : PDT X E (.Compare a [op] [b] pos) (dTest (dOp r2 da db)) :=
  ⟨imT (pt_cmpR ho ha.pe hb.pe hm) fun σ H Q h => by
    obtain ⟨δ, G, R, EX, sr, hr, h, cr, cx⟩ := h
    exact up_op l ⟨δ, G, _, EX, sr, hr, h, cr.bl, cx⟩⟩
theorem pdt_val (h : PD X E e de) (he : ∀ whole, isTrue e X.env whole = (do let v ← whole; standAt e.pos; holding [v] (truthy v)) := by intro _; rfl) : PDT X E e (dTest de) :=
  ⟨imT (pt_val h.pe he) fun _ _ _ => up_test⟩
/-- a op b op' c -/
def dChain (r r' : D2) (da db dc : DE) : DE := fun δ G R EX => da δ G (fun x G1 => db δ G1 (fun y G2 => r x y G2 (blD fun k G3 => if k = true then dc δ G3 (fun u G4 => r' y u G4 R) EX else R (.bl false) G3)) EX) EX
theorem up_chain {r s : R2} {r2 s2 : D2} (l : ∀ T, Lift2 (X.K, T) r r2) (m : ∀ T, Lift2 (X.K, T) s s2) {σ : L2.St} {H : Hp} {Q : VK} : up (kt X E) E.1 (dChain r2 s2 da db dc) σ H Q → tChain r s (up (kt X E) E.1 da) (up (kt X E) E.1 db) (up (kt X E) E.1 dc) σ H Q := fun ⟨δ, G, R, EX, sr, hr, h, cr, cx⟩ =>
  ⟨δ, G, _, EX, sr, hr, h, fun x H1 d G1 u1 h1 r1 q1 => ⟨δ, G1, _, EX, sr.up u1, h1, q1, fun y H2 e G2 u2 h2 r2 q2 => l _ x y H2 d e G2 _ _ h2 (r1.up u2) r2 q2 fun z H3 f G3 u3 h3 r3 q3 => by
    cases r3 with
    | bl k =>
      refine ⟨k, rfl, ?_⟩
      have q3 : if k = true then dc δ G3 (fun u G4 => s2 e u G4 R) EX else R (.bl false) G3 := q3
      cases k with
      | true =>
        rw [if_pos rfl] at q3 ⊢
        exact ⟨δ, G3, _, EX, sr.up (u1.trans (u2.trans u3)), h3, q3, fun w H4 g G4 u4 h4 r4 q4 => m _ y w H4 e g G4 R Q h4 ((r2.up u3).up u4) r4 q4 (cr.up (u1.trans (u2.trans (u3.trans u4)))), cx.up (u1.trans (u2.trans u3))⟩
      | false =>
        rw [if_neg Bool.false_ne_true] at q3 ⊢
        exact cr (.bl false) H3 _ G3 (u1.trans (u2.trans u3)) h3 (.bl false) q3
    | _ => exact False.elim q3, cx.up u1⟩, cx⟩
theorem pd_chain {op op' : CmpOp} {r s : R2} {r2 s2 : D2} (ho : OpR X (compareOp op) r) (l : ∀ T, Lift2 (X.K, T) r r2) (ho' : OpR X (compareOp op') s) (m : ∀ T, Lift2 (X.K, T) s s2) (ha : PD X E a da) (hb : PD X E b db) (hc : PD X E c dc)
    (hm : lastMarks [op, op'] [b, c] = false := by with_unfolding_all rfl) : PD X E (.Compare a [op, op'] [b, c] pos) (dChain r2 s2 da db dc) := ⟨imE (pe_chain ho ho' ha.pe hb.pe hc.pe hm) fun _ _ _ => up_chain l m⟩
theorem pdt_chain {op op' : CmpOp} {r s : R2} {r2 s2 : D2} (ho : OpR X (compareOp op) r) (l : ∀ T, Lift2 (X.K, T) r r2) (ho' : OpR X (compareOp op') s) (m : ∀ T, Lift2 (X.K, T) s s2) (ha : PD X E a da) (hb : PD X E b db) (hc : PD X E c dc)
    (hm : lastMarks [op, op'] [b, c] = false := by with_unfolding_all rfl) : PDT X E (.Compare a [op, op'] [b, c] pos) (dTest (dChain r2 s2 da db dc)) := ⟨imT (pt_chain ho ho' ha.pe hb.pe hc.pe hm) fun σ H Q ⟨δ, G, R, EX, sr, hr, h, cr, cx⟩ => up_chain l m ⟨δ, G, _, EX, sr, hr, h, cr.bl, cx⟩⟩
/-! and, or, not -/
def dAnd (t u : DT) : DT := fun δ G R EX => t δ G (fun c G1 => if c = true then u δ G1 R EX else R false G1) EX
def dOr (t u : DT) : DT := fun δ G R EX => t δ G (fun c G1 => if c = true then R true G1 else u δ G1 R EX) EX
def dNot (t : DT) : DT := fun δ G R EX => t δ G (fun c G1 => R (!c) G1) EX
theorem pdw_and1 (ha : PDT X E a dA) : PDW X E (.BoolOp .And [a] pos) dA := ⟨pw_and1 ha.pt⟩
theorem pdw_or1 (ha : PDT X E a dA) : PDW X E (.BoolOp .Or [a] pos) dA := ⟨pw_or1 ha.pt⟩
theorem pdw_and (ha : PDT X E a dA) (hb : PDW X E (.BoolOp .And (b :: rest) pos) dB) : PDW X E (.BoolOp .And (a :: b :: rest) pos) (dAnd dA dB) :=
  ⟨imW (pw_and ha.pt hb.pw) fun σ H Q ⟨δ, G, R, EX, sr, hr, h, cr, cx⟩ => ⟨δ, G, _, EX, sr, hr, h, fun c H1 G1 u1 h1 q1 => by
    cases c with
    | true => rw [if_pos rfl] at q1 ⊢; exact ⟨δ, G1, R, EX, sr.up u1, h1, q1, cr.up u1, cx.up u1⟩
    | false => rw [if_neg Bool.false_ne_true] at q1 ⊢; exact cr _ _ _ u1 h1 q1, cx⟩⟩
theorem pdw_or (ha : PDT X E a dA) (hb : PDW X E (.BoolOp .Or (b :: rest) pos) dB) : PDW X E (.BoolOp .Or (a :: b :: rest) pos) (dOr dA dB) :=
  ⟨imW (pw_or ha.pt hb.pw) fun σ H Q ⟨δ, G, R, EX, sr, hr, h, cr, cx⟩ => ⟨δ, G, _, EX, sr, hr, h, fun c H1 G1 u1 h1 q1 => by
    cases c with
    | true => rw [if_pos rfl] at q1 ⊢; exact cr _ _ _ u1 h1 q1
    | false => rw [if_neg Bool.false_ne_true] at q1 ⊢; exact ⟨δ, G1, R, EX, sr.up u1, h1, q1, cr.up u1, cx.up u1⟩, cx⟩⟩
theorem pdt_not (ha : PDT X E a dA) : PDT X E (.UnaryOp .Not a pos) (dNot dA) :=
  ⟨imT (pt_not ha.pt) fun σ H Q ⟨δ, G, R, EX, sr, hr, h, cr, cx⟩ => ⟨δ, G, _, EX, sr, hr, h, fun c H1 G1 u1 h1 q1 => cr _ _ _ u1 h1 q1, cx⟩⟩
theorem PDW.pdt (h : PDW X E a dA) : PDT X E a dA := ⟨h.pw.pt⟩
def dAndV (da db : DE) : DE := fun δ G R EX => da δ G (blD fun c G1 => if c = true then db δ G1 R EX else R (.bl false) G1) EX
def dOrV (da db : DE) : DE := fun δ G R EX => da δ G (blD fun c G1 => if c = true then R (.bl true) G1 else db δ G1 R EX) EX
def dNotV (da : DE) : DE := fun δ G R EX => da δ G (blD fun c G1 => R (.bl (!c)) G1) EX
theorem pd_one {op} (h : PD X E a da) : PD X E (.BoolOp op [a] pos) da := ⟨pe_one h.pe⟩
theorem pd_and (ha : PD X E a da) (hb : PD X E (.BoolOp .And (b :: rest) pos) db) : PD X E (.BoolOp .And (a :: b :: rest) pos) (dAndV da db) :=
  ⟨imE (pe_and ha.pe hb.pe) fun σ H Q ⟨δ, G, R, EX, sr, hr, h, cr, cx⟩ => ⟨δ, G, _, EX, sr, hr, h, fun x H1 d G1 u1 h1 r1 q1 => by
    cases r1 with
    | bl c =>
      refine ⟨c, rfl, ?_⟩
      have q1 : if c = true then db δ G1 R EX else R (.bl false) G1 := q1
      cases c with
      | true => rw [if_pos rfl] at q1 ⊢; exact ⟨δ, G1, R, EX, sr.up u1, h1, q1, cr.up u1, cx.up u1⟩
      | false => rw [if_neg Bool.false_ne_true] at q1 ⊢; exact cr _ _ _ _ u1 h1 (.bl false) q1
    | _ => exact False.elim q1, cx⟩⟩
theorem pd_or (ha : PD X E a da) (hb : PD X E (.BoolOp .Or (b :: rest) pos) db) : PD X E (.BoolOp .Or (a :: b :: rest) pos) (dOrV da db) :=
  ⟨imE (pe_or ha.pe hb.pe) fun σ H Q ⟨δ, G, R, EX, sr, hr, h, cr, cx⟩ => ⟨δ, G, _, EX, sr, hr, h, fun x H1 d G1 u1 h1 r1 q1 => by
    cases r1 with
    | bl c =>
      refine ⟨c, rfl, ?_⟩
      have q1 : if c = true then R (.bl true) G1 else db δ G1 R EX := q1
      cases c with
      | true => rw [if_pos rfl] at q1 ⊢; exact cr _ _ _ _ u1 h1 (.bl true) q1
      | false => rw [if_neg Bool.false_ne_true] at q1 ⊢; exact ⟨δ, G1, R, EX, sr.up u1, h1, q1, cr.up u1, cx.up u1⟩
    | _ => exact False.elim q1, cx⟩⟩
theorem pd_not (ha : PD X E a da) : PD X E (.UnaryOp .Not a pos) (dNotV da) :=
  ⟨imE (pe_not ha.pe) fun σ H Q ⟨δ, G, R, EX, sr, hr, h, cr, cx⟩ => ⟨δ, G, _, EX, sr, hr, h, fun x H1 d G1 u1 h1 r1 q1 => by
    cases r1 with
    | bl c => exact ⟨c, rfl, cr _ _ _ _ u1 h1 (.bl _) q1⟩
    | _ => exact False.elim q1, cx⟩⟩
def dIf (t : DT) (da db : DE) : DE := fun δ G R EX => t δ G (fun c G1 => if c = true then da δ G1 R EX else db δ G1 R EX) EX
theorem pd_if (hc : PDT X E c dA) (ha : PD X E a da) (hb : PD X E b db) : PD X E (.IfExp c a b pos) (dIf dA da db) :=
  ⟨imE (pe_ifExp hc.pt ha.pe hb.pe) fun σ H Q ⟨δ, G, R, EX, sr, hr, h, cr, cx⟩ => ⟨δ, G, _, EX, sr, hr, h, fun c H1 G1 u1 h1 q1 => by
    cases c with
    | true => rw [if_pos rfl] at q1 ⊢; exact ⟨δ, G1, R, EX, sr.up u1, h1, q1, cr.up u1, cx.up u1⟩
    | false => rw [if_neg Bool.false_ne_true] at q1 ⊢; exact ⟨δ, G1, R, EX, sr.up u1, h1, q1, cr.up u1, cx.up u1⟩, cx⟩⟩
/-! arguments, displays -/
def dNil : DA := fun _ G R _ => R [] G
def dCons (da : DE) (dl : DA) : DA := fun δ G R EX => da δ G (fun x G1 => dl δ G1 (fun xs G2 => R (x :: xs) G2) EX) EX
theorem pda_nil : PDA X E [] dNil := ⟨imA pa_nil fun σ H Q ⟨δ, G, R, EX, sr, hr, h, cr, cx⟩ => cr _ _ _ _ (Up.refl H) hr .nil h⟩
theorem pda_cons (ha : PD X E e da) (hr : PDA X E es dl) (hs : starEach (e :: es) X.env = (false, eval e X.env) :: starEach es X.env := by rfl) : PDA X E (e :: es) (dCons da dl) :=
  ⟨imA (pa_cons ha.pe hr.pa hs) fun σ H Q ⟨δ, G, R, EX, sr, hr, h, cr, cx⟩ => ⟨δ, G, _, EX, sr, hr, h, fun x H1 d G1 u1 h1 r1 q1 => ⟨δ, G1, _, EX, sr.up u1, h1, q1, fun ys H2 es G2 u2 h2 r2 q2 => cr _ _ _ _ (u1.trans u2) h2 (.cons (r1.up u2) r2) q2, cx.up u1⟩, cx⟩⟩
def dTup (dl : DA) : DE := fun δ G R EX => dl δ G (fun xs G1 => xs.length ≤ sizeLine ∧ R (.tup xs) G1) EX
def dLst (dl : DA) : DE := fun δ G R EX => dl δ G (fun xs G1 => xs.length ≤ sizeLine ∧ ∀ p, G1 p = none → R (.ref p) (updD G1 p (.lst xs))) EX
theorem pd_tup {x1} (h : PDA X E es dl) : PD X E (.Tuple es x1 pos) (dTup dl) :=
  ⟨imE (pe_tup h.pa) fun σ H Q ⟨δ, G, R, EX, sr, hr, h, cr, cx⟩ => ⟨δ, G, _, EX, sr, hr, h, fun xs H1 l G1 u1 h1 r1 ⟨z, q1⟩ => ⟨by rw [r1.length]; exact z, fun p hp =>
    cr _ _ _ _ (u1.trans (Up.new hp)) (h1.new0 hp) (.tup (SqT.of upd_same) (r1.up (Up.new hp))) q1⟩, cx⟩⟩
theorem pd_lst (h : PDA X E es dl) : PD X E (.List es pos) (dLst dl) :=
  ⟨imE (pe_lst h.pa) fun σ H Q ⟨δ, G, R, EX, sr, hr, h, cr, cx⟩ => ⟨δ, G, _, EX, sr, hr, h, fun xs H1 l G1 u1 h1 r1 ⟨z, q1⟩ => ⟨by rw [r1.length]; exact z, fun p hp =>
    cr _ _ _ _ (u1.trans (Up.new hp)) (h1.new (c := .lst l) hp ⟨xs, upd_same, r1.up (Up.new hp)⟩) (.ref p) (q1 p (h1.none hp))⟩, cx⟩⟩
/-! calls -/
abbrev DC := List D → DH → DK → Prop
def LiftC (K : KT) (r : List V → Hp → VK → Prop) (r2 : DC) : Prop := ∀ x H d G R Q, HRel K G H → DvL K H x d → r2 d G R → CloR K H Q R → r x H Q
def dCB (r : DC) (dl : DA) : DE := fun δ G R EX => dl δ G (fun xs G1 => r xs G1 R) EX
theorem up_cb {r : List V → Hp → VK → Prop} {r2 : DC} (l : ∀ T, LiftC (X.K, T) r r2) {σ : L2.St} {H : Hp} {Q : VK} : up (kt X E) E.1 (dCB r2 dl) σ H Q → tCB r (upA (kt X E) E.1 dl) σ H Q := fun ⟨δ, G, R, EX, sr, hr, h, cr, cx⟩ => ⟨δ, G, _, EX, sr, hr, h, fun x H1 d G1 u1 h1 r1 q1 => l _ x H1 d G1 R Q h1 r1 q1 (cr.up u1), cx⟩
theorem pd_callB {id : String} {x : Str} {p : Pos} {r : List V → Hp → VK → Prop} {r2 : DC} (hc : CallR X (.builtin id) r) (l : ∀ T, LiftC (X.K, T) r r2) (hg : Gl X x) (hm : X.mg x = none) (hv : bootBuiltins x = some (.builtin id)) (ha : PDA X E (e :: es) dl) (hn : x ≠ "__name__" := by decide) (hdb : (x == ("__debug__" : Str)) = false := by decide)
    (he : starEach (e :: es) X.env = (false, eval e X.env) :: starEach es X.env := by rfl) (hpl : (backTo pos (starEach es X.env)).any (·.1) = false := by rfl) : PD X E (.Call (.Name x p) (e :: es) [] pos) (dCB r2 dl) :=
  ⟨imE (pe_callB hc hg hm hv ha.pa hn hdb (he := he) (hpl := hpl)) fun _ _ _ => up_cb l⟩
theorem pd_callTy {T : String} {x : Str} {p : Pos} {r : List V → Hp → VK → Prop} {r2 : DC} (hc : CallR X (.type T) r) (l : ∀ T, LiftC (X.K, T) r r2) (hg : Gl X x) (hm : X.mg x = none) (hv : bootBuiltins x = some (.type T)) (ha : PDA X E (e :: es) dl) (hn : x ≠ "__name__" := by decide) (hdb : (x == ("__debug__" : Str)) = false := by decide)
    (he : starEach (e :: es) X.env = (false, eval e X.env) :: starEach es X.env := by rfl) (hpl : (backTo pos (starEach es X.env)).any (·.1) = false := by rfl) : PD X E (.Call (.Name x p) (e :: es) [] pos) (dCB r2 dl) :=
  ⟨imE (pe_callTy hc hg hm hv ha.pa hn hdb (he := he) (hpl := hpl)) fun _ _ _ => up_cb l⟩
/-- a def of the module -/
def dCall (sd : SpD) (dl : DA) : DE := fun δ G R EX => dl δ G (fun xs G1 => sd xs G1 R EX) EX
theorem up_call {sd : SpD} {σ : L2.St} {H : Hp} {Q : VK} : up (kt X E) E.1 (dCall sd dl) σ H Q → tCall (upF (kt X E) sd) [] E.1 (upA (kt X E) E.1 dl) σ H Q := fun ⟨δ, G, R, EX, sr, hr, h, cr, cx⟩ =>
  ⟨δ, G, _, EX, sr, hr, h, fun x H1 d G1 u1 h1 r1 q1 => by show upF (kt X E) sd (x ++ []) H1 Q E.1; rw [List.append_nil]; exact ⟨d, G1, R, EX, r1, h1, q1, cr.up u1, cx.up u1⟩, cx⟩
theorem pd_call {CX : CXT} {k : Nat} {f : Addr} {fd : FuncData} {ps : List Str} {sd : SpD} {x : Str} {p : Pos} (F : FnOk X.prog X.w X.K X.mg X.base CX k f fd ps (upF (kt X E) sd)) (hr : Room k X.A) (hg : Gl X x) (hm : X.mg x = some (.ref f)) (hk : PySem.W.keepIn X.K (.ref f) = true) (hb : Binds X.K fd ps []) (hx : Passes CX X E.1)
    (ha : PDA X E (e :: es) dl) (hdb : (x == ("__debug__" : Str)) = false := by decide) (he : starEach (e :: es) X.env = (false, eval e X.env) :: starEach es X.env := by rfl) (hpl : (backTo pos (starEach es X.env)).any (·.1) = false := by rfl) :
    PD X E (.Call (.Name x p) (e :: es) [] pos) (dCall sd dl) := ⟨imE (pe_call F hr hg hm hk hb .nil hx ha.pa hdb he hpl) fun _ _ _ => up_call⟩
theorem pd_call0 {CX : CXT} {k : Nat} {f : Addr} {fd : FuncData} {ps : List Str} {sd : SpD} {x : Str} {p : Pos} (F : FnOk X.prog X.w X.K X.mg X.base CX k f fd ps (upF (kt X E) sd)) (hr : Room k X.A) (hg : Gl X x) (hm : X.mg x = some (.ref f)) (hk : PySem.W.keepIn X.K (.ref f) = true) (hb : Binds X.K fd ps []) (hx : Passes CX X E.1)
    (hdb : (x == ("__debug__" : Str)) = false := by decide) : PD X E (.Call (.Name x p) [] [] pos) (dCall sd dNil) := ⟨imE (pe_call0 F hr hg hm hk hb .nil hx hdb) fun σ H Q ⟨δ, G, R, EX, sr, hr, h, cr, cx⟩ => ⟨[], G, R, EX, .nil, hr, h, cr, cx⟩⟩
end
end Cc
/-! ### targets, statements, loops, comprehensions -/
namespace Cc
open PySem PySem.Spec PyProof.Rows L2
abbrev DG := D → DS → DH → (DS → DH → Prop) → DX → Prop
abbrev DGs := List D → DS → DH → (DS → DH → Prop) → DX → Prop
def upG (K : KT) (E : XK) (g : DG) : TG := fun v σ H Q => ∃ d δ G R EX, Dv K H v d ∧ SRel K H σ δ ∧ HRel K G H ∧ g d δ G R EX ∧ CloS K H Q R ∧ CloX K H E EX
def upGs (K : KT) (E : XK) (g : DGs) : TGs := fun v σ H Q => ∃ d δ G R EX, DvL K H v d ∧ SRel K H σ δ ∧ HRel K G H ∧ g d δ G R EX ∧ CloS K H Q R ∧ CloX K H E EX
structure PDG (X : Cx) (E : EK) (t : Expr) (g : DG) : Prop where
  pg : PG X t (upG (kt X E) E.1 g)
structure PDGs (X : Cx) (E : EK) (t : List Expr) (g : DGs) : Prop where
  pgs : PGs X t (upGs (kt X E) E.1 g)
theorem imG {X : Cx} {e : Expr} {t u : TG} (h : PG X e t) (k : ∀ v σ H Q, u v σ H Q → t v σ H Q) : PG X e u := ⟨fun pins s σ H v x Q I r q => h.run pins s σ H v x Q I r (k v σ H Q q)⟩
theorem imGs {X : Cx} {e : List Expr} {t u : TGs} (h : PGs X e t) (k : ∀ v σ H Q, u v σ H Q → t v σ H Q) : PGs X e u := ⟨fun pins s σ H v x Q I r q => h.run pins s σ H v x Q I r (k v σ H Q q)⟩
section
variable {X : Cx} {E : EK} {a b c e : Expr} {es rest : List Expr} {pos : Pos} {da db dc de : DE} {dA dB : DT} {dl : DA} {g : DG} {gs : DGs} {st : Stmt} {sts body : List Stmt} {t u : DSt}
def gN (i : Nat) : DG := fun d δ G R _ => R (δ.set i (some d)) G
def gsNil : DGs := fun ds δ G R _ => ds = [] ∧ R δ G
def gsCons (g : DG) (gs : DGs) : DGs := fun ds δ G R EX => match ds with
  | d :: r => g d δ G (fun δ1 G1 => gs r δ1 G1 R EX) EX
  | [] => False
def gT (n : Nat) (gs : DGs) : DG := fun d δ G R EX => match d.tl with
  | some l => l.length = n ∧ gs l δ G R EX
  | none => False
theorem up_gN {i : Nat} {v : V} {σ : L2.St} {H : Hp} {Q : L2.St → Hp → Prop} : upG (kt X E) E.1 (gN i) v σ H Q → gName i v σ H Q := fun ⟨d, δ, G, R, EX, dv, sr, hr, h, cr, cx⟩ => cr _ _ _ _ (Up.refl H) (sr.set dv) hr h
theorem pdg_name {i : Nat} {x : Str} (hN : X.N.Nodup) (hi : X.N[i]? = some x) (hx : Loc X.env.scope x) (hf : X.fn x = true ∨ X.env.scope.names.lookup x = some .local := by first | exact .inl rfl | exact .inr rfl | assumption) : PDG X E (.Name x pos) (gN i) :=
  ⟨imG (pg_name hN hi hx hf) fun _ _ _ _ => up_gN⟩
theorem pdgs_nil : PDGs X E [] gsNil := ⟨imGs pgs_nil fun v σ H Q ⟨d, δ, G, R, EX, dv, sr, hr, h, cr, cx⟩ => by
  obtain ⟨rfl, h⟩ := h
  cases dv
  exact ⟨rfl, cr _ _ _ _ (Up.refl H) sr hr h⟩⟩
theorem pdgs_cons (h1 : PDG X E e g) (h2 : PDGs X E es gs) (hs : (assignEach (e :: es) X.env).map (·.2) = assign e X.env :: (assignEach es X.env).map (·.2) := by rfl) : PDGs X E (e :: es) (gsCons g gs) :=
  ⟨imGs (pgs_cons h1.pg h2.pgs hs) fun v σ H Q ⟨d, δ, G, R, EX, dv, sr, hr, h, cr, cx⟩ => by
    cases dv with
    | nil => exact False.elim h
    | cons r rr => exact ⟨_, _, rfl, ⟨_, δ, G, _, EX, r, sr, hr, h, fun σ1 H1 δ1 G1 u1 s1 h1 q1 => ⟨_, δ1, G1, R, EX, rr.up u1, s1, h1, q1, cr.up u1, cx.up u1⟩, cx⟩⟩⟩
theorem pdg_tup {k n : Nat} (hc : X.calm = true) (h : PDGs X E es gs) (hn : (assignEach es X.env).length = n := by rfl) (hst : (assignEach es X.env).findIdx? (·.1) = none := by rfl) : PDG X E (.Tuple es k pos) (gT n gs) :=
  ⟨imG (pg_tup hc h.pgs hn hst) fun v σ H Q ⟨d, δ, G, R, EX, dv, sr, hr, h, cr, cx⟩ => by
    unfold gT at h
    split at h
    · rename_i l e
      obtain ⟨a, xs, rfl, hq, r⟩ := dv.sqT e
      exact ⟨_, _, rfl, hq, by rw [r.length]; exact h.1, _, δ, G, R, EX, r, sr, hr, h.2, cr, cx⟩
    · exact False.elim h⟩
/-- o[i] = .. -/
abbrev DSet := D → D → D → DH → (DH → Prop) → Prop
def LiftSet (K : KT) (t : TSet) (t2 : DSet) : Prop := ∀ o i v H d e f G (R : DH → Prop) (Q : Hp → Prop), HRel K G H → Dv K H o d → Dv K H i e → Dv K H v f → t2 d e f G R → (∀ H' G', Up H H' → HRel K G' H' → R G' → Q H') → t o i v H Q
def gS (da db : DE) (t : DSet) : DG := fun v δ G R EX => da δ G (fun o G1 => db δ G1 (fun i G2 => t o i v G2 fun G3 => R δ G3) EX) EX
theorem pdg_sub {t1 : TSet} {t2 : DSet} (hs : PSet X t1) (l : ∀ T, LiftSet (X.K, T) t1 t2) (ha : PD X E a da) (hb : PD X E b db)
    (hh : ∀ v, assign (.Subscript a b pos) X.env v = (do
      let ov ← holding [v] (eval a X.env)
      let iv ← holding [v, ov] (eval b X.env)
      standAt pos
      holding [v, ov, iv] (setItem ov iv v)
      release [v, ov, iv] []) := by intro _; rfl) : PDG X E (.Subscript a b pos) (gS da db t2) :=
  ⟨imG (pg_sub ha.pe hb.pe hs hh) fun v σ H Q ⟨d, δ, G, R, EX, dv, sr, hr, h, cr, cx⟩ =>
    ⟨δ, G, _, EX, sr, hr, h, fun o H1 d1 G1 u1 h1 r1 q1 => ⟨δ, G1, _, EX, sr.up u1, h1, q1, fun i H2 d2 G2 u2 h2 r2 q2 =>
      l _ o i v H2 d1 d2 d G2 _ _ h2 (r1.up u2) r2 (dv.up (u1.trans u2)) q2 fun H3 G3 u3 h3 q3 => cr _ _ _ _ (u1.trans (u2.trans u3)) (sr.up (u1.trans (u2.trans u3))) h3 q3, cx.up u1⟩, cx⟩⟩
/-! statements -/
def sAsg (da : DE) (g : DG) : DSt := fun D δ G => da δ G (fun x G1 => g x δ G1 D.nx D.ex) D.ex
theorem up_asg {σ : L2.St} {H : Hp} {Dn : Ends} : upS (kt X E) E.1 (sAsg da g) Dn σ H → tAsg (up (kt X E) E.1 da) (upG (kt X E) E.1 g) Dn σ H := fun ⟨δ, G, DD, sr, hr, h, cn, ct, cb, cc, cx⟩ =>
  ⟨δ, G, _, DD.ex, sr, hr, h, fun x H1 d G1 u1 h1 r1 q1 => ⟨d, δ, G1, DD.nx, DD.ex, r1, sr.up u1, h1, q1, cn.up u1, cx.up u1⟩, cx⟩
theorem pds_asg {tg : Expr} (he : PD X E e de) (hg : PDG X E tg g) (hs : swapsWithSole [tg] e pos.line X.env = pure false := by rfl) (hw : swappedStores [tg] e X.env = pure none := by rfl)
    (h1 : (assignEach [tg] X.env).map (·.2) = [assign tg X.env] := by rfl) : PDS X E (.Assign [tg] e pos) (sAsg de g) := ⟨imS (ps_asg he.pe hg.pg hs hw h1) fun _ _ _ => up_asg⟩
def sDrop (da : DE) : DSt := fun D δ G => da δ G (fun _ G1 => D.nx δ G1) D.ex
theorem pds_expr (he : PD X E e de) (hs : swapsWith e none pos.line X.env = pure false := by rfl) : PDS X E (.Expr e pos) (sDrop de) := ⟨imS (ps_expr he.pe hs) fun Dn σ H ⟨δ, G, DD, sr, hr, h, cn, ct, cb, cc, cx⟩ =>
  ⟨δ, G, _, DD.ex, sr, hr, h, fun x H1 d G1 u1 h1 r1 q1 => cn _ _ _ _ u1 (sr.up u1) h1 q1, cx⟩⟩
def sRet (da : DE) : DSt := fun D δ G => da δ G D.rt D.ex
theorem pds_ret (he : PD X E e de) : PDS X E (.Return (some e) pos) (sRet de) := ⟨imS (ps_ret he.pe) fun Dn σ H ⟨δ, G, DD, sr, hr, h, cn, ct, cb, cc, cx⟩ => ⟨δ, G, _, DD.ex, sr, hr, h, ct, cx⟩⟩
def sRetN : DSt := fun D _ G => D.rt .non G
theorem pds_retN : PDS X E (.Return none pos) sRetN := ⟨imS ps_retN fun Dn σ H ⟨δ, G, DD, sr, hr, h, cn, ct, cb, cc, cx⟩ => ct _ _ _ _ (Up.refl H) hr .non h⟩
def sNext : DSt := fun D δ G => D.nx δ G
theorem pds_pass : PDS X E (.Pass pos) sNext := ⟨imS ps_pass fun Dn σ H ⟨δ, G, DD, sr, hr, h, cn, ct, cb, cc, cx⟩ => cn _ _ _ _ (Up.refl H) sr hr h⟩
def sSeq (t u : DSt) : DSt := fun D δ G => t { D with nx := u D } δ G
theorem pdss_nil : PDSs X E [] sNext := ⟨imSs pss_nil fun Dn σ H ⟨δ, G, DD, sr, hr, h, cn, ct, cb, cc, cx⟩ => cn _ _ _ _ (Up.refl H) sr hr h⟩
theorem pdss_cons (h1 : PDS X E st t) (h2 : PDSs X E sts u) : PDSs X E (st :: sts) (sSeq t u) := ⟨imSs (pss_cons h1.ps h2.ps) fun Dn σ H ⟨δ, G, DD, sr, hr, h, cn, ct, cb, cc, cx⟩ =>
  ⟨δ, G, _, sr, hr, h, fun σ1 H1 δ1 G1 u1 s1 h1 q1 => ⟨δ1, G1, DD, s1, h1, q1, cn.up u1, ct.up u1, cb.up u1, cc.up u1, cx.up u1⟩, ct, cb, cc, cx⟩⟩
theorem pdss_one (h1 : PDS X E st t) : PDSs X E [st] t := ⟨pss_one h1.ps⟩
def sIf (c : DT) (t u : DSt) : DSt := fun D δ G => c δ G (fun b G1 => if b = true then t D δ G1 else u D δ G1) D.ex
theorem pds_if {ss : List Stmt} (hc : PDT X E c dA) (ha : PDSs X E sts t) (hb : PDSs X E ss u) : PDS X E (.If c sts ss pos) (sIf dA t u) := ⟨imS (ps_if hc.pt ha.ps hb.ps) fun Dn σ H ⟨δ, G, DD, sr, hr, h, cn, ct, cb, cc, cx⟩ =>
  ⟨δ, G, _, DD.ex, sr, hr, h, fun b H1 G1 u1 h1 q1 => by
    cases b with
    | true => rw [if_pos rfl] at q1 ⊢; exact ⟨δ, G1, DD, sr.up u1, h1, q1, cn.up u1, ct.up u1, cb.up u1, cc.up u1, cx.up u1⟩
    | false => rw [if_neg Bool.false_ne_true] at q1 ⊢; exact ⟨δ, G1, DD, sr.up u1, h1, q1, cn.up u1, ct.up u1, cb.up u1, cc.up u1, cx.up u1⟩, cx⟩⟩
/-! what is walked -/
def SrcOk (K : KT) (J : It) (l : List D) (ok : DH → Prop) (H0 : Hp) : Prop := ∀ (i : Nat) (H : Hp) (G : DH), Up H0 H → HRel K G H → ok G →
  (i < l.length → J.go i H ∧ ∀ x H', J.yld i H x H' → ∃ d, l[i]? = some d ∧ Up H H' ∧ HRel K G H' ∧ Dv K H' x d) ∧ (l.length ≤ i → J.stop i H)
abbrev DI := DS → DH → (List D → (DH → Prop) → DH → Prop) → DX → Prop
def upI (K : KT) (E : XK) (di : DI) : TI := fun σ H R => ∃ δ G RR EX, SRel K H σ δ ∧ HRel K G H ∧ di δ G RR EX ∧ (∀ J l ok H' G', Up H H' → HRel K G' H' → SrcOk K J l ok H' → RR l ok G' → R J H') ∧ CloX K H E EX
structure PDI (X : Cx) (E : EK) (tg iter : Expr) (di : DI) : Prop where
  pi : PI X tg iter (upI (kt X E) E.1 di)
theorem imI {X : Cx} {tg iter : Expr} {t u : TI} (h : PI X tg iter t) (k : ∀ σ H Q, u σ H Q → t σ H Q) : PI X tg iter u := ⟨fun pins s σ H Q I q => h.run pins s σ H Q I (k σ H Q q)⟩
/-- a tuple, or a list that stands still -/
def iSq (da : DE) : DI := fun δ G RR EX => da δ G (fun d G1 => match d with
  | .tup l => RR l (fun _ => True) G1
  | .key ks => RR (ks.map kD) (fun _ => True) G1
  | .rol l => RR l (fun _ => True) G1
  | .ref a => ∃ l, G1 a = some (.lst l) ∧ RR l (fun G => G a = some (.lst l)) G1
  | _ => False) EX
theorem sqT_inj {K : KT} {H : Hp} {a : Addr} {xs ys : List V} (h : SqT K.1 H a xs) : True := trivial
theorem src_tup {K : KT} {H0 : Hp} {a : Addr} {xs : List V} {l : List D} (hq : SqT K.1 H0 a xs) (r : DvL K H0 xs l) : SrcOk K (Itt K.1 a) l (fun _ => True) H0 := fun i H G u hr _ => by
  refine ⟨fun hi => ?_, fun hi => ⟨xs, u.sqT hq, by rw [r.length]; exact hi⟩⟩
  have hx : i < xs.length := by rw [r.length]; exact hi
  refine ⟨⟨xs, xs[i], u.sqT hq, List.getElem?_eq_getElem hx⟩, fun x H' ⟨e, y⟩ => ?_⟩
  subst e
  obtain ⟨d, h1, h2⟩ := (r.up u).get' (y xs (u.sqT hq))
  exact ⟨d, h1, Up.refl _, hr, h2⟩
theorem src_rol {K : KT} {H0 : Hp} {a : Addr} {xs : List V} {l : List D} (hq : SqR K.1 H0 a xs) (r : DvL K H0 xs l) : SrcOk K (Itl K.1 a) l (fun _ => True) H0 := fun i H G u hr _ => by
  have q := (u.sqR hq).sqL
  refine ⟨fun hi => ?_, fun hi => ⟨xs, q, by rw [r.length]; exact hi⟩⟩
  have hx : i < xs.length := by rw [r.length]; exact hi
  refine ⟨⟨xs, xs[i], q, List.getElem?_eq_getElem hx⟩, fun x H' ⟨e, y⟩ => ?_⟩
  subst e
  obtain ⟨d, h1, h2⟩ := (r.up u).get' (y xs q)
  exact ⟨d, h1, Up.refl _, hr, h2⟩
theorem src_lst {K : KT} {H0 : Hp} {a : Addr} {l : List D} : SrcOk K (Itl K.1 a) l (fun G => G a = some (.lst l)) H0 := fun i H G u hr ok => by
  obtain ⟨xs, e, r⟩ := hr a _ ok
  have q : SqL K.1 H a xs := SqL.of e
  refine ⟨fun hi => ?_, fun hi => ⟨xs, q, by rw [r.length]; exact hi⟩⟩
  have hx : i < xs.length := by rw [r.length]; exact hi
  refine ⟨⟨xs, xs[i], q, List.getElem?_eq_getElem hx⟩, fun x H' ⟨e, y⟩ => ?_⟩
  subst e
  obtain ⟨d, h1, h2⟩ := r.get' (y xs q)
  exact ⟨d, h1, Up.refl _, hr, h2⟩
theorem pdi_seq {tg : Expr} (he : PD X E e de) : PDI X E tg e (iSq de) := by
  refine ⟨⟨fun pins s σ H R I h => ?_⟩⟩
  obtain ⟨δ, G, RR, EX, sr, hr, h, cr, cx⟩ := h
  -- what is walked decides between the two library rules: read the value first
  refine thn (he.pe.run pins s σ H (fun v H1 => (∃ a, v = .ref a ∧ (∃ xs, SqL X.K H1 a xs) ∧ R (Itl X.K a) H1) ∨ (∃ a, v = .ref a ∧ (∃ xs, SqT X.K H1 a xs) ∧ R (Itt X.K a) H1)) I ⟨δ, G, _, EX, sr, hr, h, fun v H1 d G1 u1 h1 r1 q1 => ?_, cx⟩) fun v s1 ⟨x, H1, I1, r1, q1⟩ => ?_
  · cases r1 with
    | tup hq r => exact .inr ⟨_, rfl, ⟨_, hq⟩, cr _ _ _ _ _ u1 h1 (src_tup hq r) q1⟩
    | key hq => exact .inr ⟨_, rfl, ⟨_, SqT.of hq⟩, cr _ _ _ _ _ u1 h1 (src_tup (SqT.of hq) (dvL_kD _)) q1⟩
    | rol hq r => exact .inl ⟨_, rfl, ⟨_, hq.sqL⟩, cr _ _ _ _ _ u1 h1 (src_rol hq r) q1⟩
    | ref a =>
      obtain ⟨l, e, q⟩ := q1
      obtain ⟨xs, e1, _⟩ := h1 a _ e
      exact .inl ⟨_, rfl, ⟨_, SqL.of e1⟩, cr _ _ _ _ _ u1 h1 src_lst q⟩
    | _ => exact False.elim q1
  · rcases q1 with ⟨a, e, ⟨xs, hq⟩, q⟩ | ⟨a, e, ⟨xs, hq⟩, q⟩
    · subst e
      cases r1
      obtain ⟨its, rv, p, hz⟩ := I1.list hq
      refine wpAny_pyIter_list p.isList ?_
      refine ⟨s1.heap.objs.size, [s1.heap.objs.size], _, _, H1, rfl, I1.kept (t' := s1.toks) fun b o e => Heap.get?_push_of_some _ e, turn_list a _, ⟨_, Heap.get?_push_size _ rfl, rfl, rfl⟩, fun b hb => ?_, q⟩
      have e : b = s1.heap.objs.size := by simpa using hb
      subst e
      exact I1.fpOk (Nat.le_refl _) (I1.hok.fresh (Nat.le_refl _))
    · subst e
      cases r1
      obtain ⟨its, rv, p, hz⟩ := I1.tuple hq
      refine wpAny_pyIter_tuple (show s1.heap.IsTuple a its.toArray from p) ?_
      refine ⟨s1.heap.objs.size, [s1.heap.objs.size], _, _, H1, rfl, I1.kept (t' := s1.toks) fun b o e => Heap.get?_push_of_some _ e, turn_tuple a _, ⟨_, Heap.get?_push_size _ rfl, rfl, rfl⟩, fun b hb => ?_, q⟩
      have e : b = s1.heap.objs.size := by simpa using hb
      subst e
      exact I1.fpOk (Nat.le_refl _) (I1.hok.fresh (Nat.le_refl _))
def rangeD (lo : Int) (n : Nat) : List D := (List.range n).map fun i => .int (lo + (i : Nat))
theorem src_range {K : KT} {H0 : Hp} {lo : Int} {n : Nat} : SrcOk K (Itr lo n) (rangeD lo n) (fun _ => True) H0 := fun i H G u hr _ => by
  have hl : (rangeD lo n).length = n := by unfold rangeD; rw [List.length_map, List.length_range]
  refine ⟨fun hi => ⟨by rw [hl] at hi; exact hi, fun x H' ⟨e, y⟩ => ?_⟩, fun hi => by rw [hl] at hi; exact hi⟩
  subst e y
  rw [hl] at hi
  refine ⟨_, ?_, Up.refl _, hr, .int _⟩
  unfold rangeD
  rw [List.getElem?_map, List.getElem?_range hi]
  rfl
/-- range(n), range(a, b) -/
def iRange1 (da : DE) : DI := fun δ G RR EX => da δ G (fun d G1 => match d with
  | .int j => (-(2 ^ 62) ≤ j ∧ j < 2 ^ 62) ∧ RR (rangeD 0 j.toNat) (fun _ => True) G1
  | _ => False) EX
def iRange2 (da db : DE) : DI := fun δ G RR EX => da δ G (fun d G1 => db δ G1 (fun e G2 => match d, e with
  | .int i, .int j => (-(2 ^ 62) ≤ i ∧ i < 2 ^ 62 ∧ -(2 ^ 62) ≤ j ∧ j < 2 ^ 62) ∧ RR (rangeD i (j - i).toNat) (fun _ => True) G2
  | _, _ => False) EX) EX
theorem pdi_range1 {tg : Expr} {p : Pos} (hg : Gl X "range") (hm : X.mg "range" = none) (ha : PD X E a da) (hs : starEach [a] X.env = [(false, eval a X.env)] := by rfl) (hs' : starEach (a :: []) X.env = (false, eval a X.env) :: starEach [] X.env := by rfl) : PDI X E tg (.Call (.Name "range" p) [a] [] pos) (iRange1 da) :=
  ⟨imI (pi_range1 hg hm (pa_cons ha.pe pa_nil hs') hs) fun σ H R ⟨δ, G, RR, EX, sr, hr, h, cr, cx⟩ => ⟨δ, G, _, EX, sr, hr, h, fun x H1 d G1 u1 h1 r1 q1 => by
    cases r1 with
    | int j => exact ⟨j, rfl, q1.1.1, q1.1.2, cr _ _ _ _ _ u1 h1 src_range q1.2⟩
    | _ => exact False.elim q1, cx⟩⟩
theorem pdi_range2 {tg : Expr} {p : Pos} (hg : Gl X "range") (hm : X.mg "range" = none) (ha : PD X E a da) (hb : PD X E b db) (hs : starEach [a, b] X.env = [(false, eval a X.env), (false, eval b X.env)] := by rfl) (hs2 : starEach [b] X.env = [(false, eval b X.env)] := by rfl)
    (hs' : starEach (a :: [b]) X.env = (false, eval a X.env) :: starEach [b] X.env := by rfl) (hs'' : starEach (b :: []) X.env = (false, eval b X.env) :: starEach [] X.env := by rfl) : PDI X E tg (.Call (.Name "range" p) [a, b] [] pos) (iRange2 da db) :=
  ⟨imI (pi_range2 hg hm (pa_cons ha.pe (pa_cons hb.pe pa_nil hs'') hs') hs hs2) fun σ H R ⟨δ, G, RR, EX, sr, hr, h, cr, cx⟩ => ⟨δ, G, _, EX, sr, hr, h, fun x H1 d G1 u1 h1 r1 q1 => ⟨δ, G1, _, EX, sr.up u1, h1, q1, fun y H2 e G2 u2 h2 r2 q2 => by
    cases r1 with
    | int i =>
      cases r2 with
      | int j => exact ⟨i, j, rfl, q2.1, cr _ _ _ _ _ (u1.trans u2) h2 src_range q2.2⟩
      | _ => exact False.elim q2
    | _ => exact False.elim q2, cx.up u1⟩, cx⟩⟩
def enumD (l : List D) : List D := (List.range l.length).map fun i => .tup [.int (i : Nat), l.getD i .non]
theorem enumD_length (l : List D) : (enumD l).length = l.length := by unfold enumD; rw [List.length_map, List.length_range]
theorem src_enum {K : KT} {H0 : Hp} {a : Addr} {l : List D} : SrcOk K (Ite K.1 a) (enumD l) (fun G => G a = some (.lst l)) H0 := fun i H G u hr ok => by
  obtain ⟨xs, e, r⟩ := hr a _ ok
  have q : SqL K.1 H a xs := SqL.of e
  rw [enumD_length]
  refine ⟨fun hi => ?_, fun hi => ⟨xs, q, by rw [r.length]; exact hi⟩⟩
  have hx : i < xs.length := by rw [r.length]; exact hi
  refine ⟨⟨xs, xs[i], q, List.getElem?_eq_getElem hx⟩, fun x H' y => ?_⟩
  obtain ⟨T, v, ex, nT, eH, hv⟩ := y
  subst ex eH
  obtain ⟨d, h1, h2⟩ := r.get' (hv xs q)
  refine ⟨.tup [.int (i : Nat), d], ?_, Up.new nT, hr.new0 nT, .tup (SqT.of upd_same) (.cons (.int _) (.cons (h2.up (Up.new nT)) .nil))⟩
  unfold enumD
  rw [List.getElem?_map, List.getElem?_range hi]
  simp only [Option.map_some]
  rw [List.getD_eq_getElem?_getD, h1]
  rfl
/-- enumerate(a list) -/
def iEnumD (da : DE) : DI := fun δ G RR EX => da δ G (fun d G1 => match d with
  | .ref a => ∃ l, G1 a = some (.lst l) ∧ RR (enumD l) (fun G => G a = some (.lst l)) G1
  | _ => False) EX
theorem pdi_enum {tg : List Expr} {kk : Nat} {tpos p : Pos} (hg : Gl X "enumerate") (hm : X.mg "enumerate" = none) (ha : PD X E a da) (hs : starEach [a] X.env = [(false, eval a X.env)] := by rfl) (hs' : starEach (a :: []) X.env = (false, eval a X.env) :: starEach [] X.env := by rfl) :
    PDI X E (.Tuple tg kk tpos) (.Call (.Name "enumerate" p) [a] [] pos) (iEnumD da) :=
  ⟨imI (pi_enum hg hm (pa_cons ha.pe pa_nil hs') hs) fun σ H R ⟨δ, G, RR, EX, sr, hr, h, cr, cx⟩ => ⟨δ, G, _, EX, sr, hr, h, fun x H1 d G1 u1 h1 r1 q1 => by
    cases r1 with
    | ref a =>
      obtain ⟨l, e, q⟩ := q1
      obtain ⟨xs, e1, _⟩ := h1 a _ e
      exact ⟨a, xs, rfl, SqL.of e1, cr _ _ _ _ _ u1 h1 src_enum q⟩
    | _ => exact False.elim q1, cx⟩⟩
/-! for -/
def goFor (ok : DH → Prop) (g : DG) (tb : DSt) (D : DEnds) : List Cc.D → DS → DH → Prop
  | [], δ, G => ok G ∧ D.nx δ G
  | x :: xs, δ, G => ok G ∧ g x δ G (fun δ2 G2 => tb { D with nx := goFor ok g tb D xs, ct := goFor ok g tb D xs, bk := D.nx } δ2 G2) D.ex
def sFor (di : DI) (g : DG) (tb : DSt) : DSt := fun D δ G => di δ G (fun l ok G1 => goFor ok g tb D l δ G1) D.ex
theorem up_for {di : DI} {Dn : Ends} {σ : L2.St} {H : Hp} : upS (kt X E) E.1 (sFor di g t) Dn σ H → tFor (upI (kt X E) E.1 di) (upG (kt X E) E.1 g) (upS (kt X E) E.1 t) Dn σ H := fun ⟨δ, G, DD, sr, hr, h, cn, ct, cb, cc, cx⟩ => by
  refine ⟨δ, G, _, DD.ex, sr, hr, h, fun J l ok H0 G0 u0 h0 so q0 => ?_, cx⟩
  have sr0 := sr.up u0
  refine ⟨fun i m σ H => m = l.length - i ∧ i ≤ l.length ∧ ∃ δ G, SRel (kt X E) H σ δ ∧ HRel (kt X E) G H ∧ Up H0 H ∧ goFor ok g t DD (l.drop i) δ G, ⟨l.length, by simp, Nat.zero_le _, δ, G0, sr0, h0, Up.refl _, by simpa using q0⟩, ?_⟩
  rintro i m σ1 H1 ⟨rfl, hi, δ1, G1, s1, h1, u1, q1⟩
  by_cases hlt : i < l.length
  · rw [List.drop_eq_getElem_cons hlt] at q1
    obtain ⟨k1, q1⟩ := q1
    obtain ⟨gx, yx⟩ := (so i H1 G1 u1 h1 k1).1 hlt
    refine .inr ⟨gx, fun σ2 H2 => ∃ δ2 G2, SRel (kt X E) H2 σ2 δ2 ∧ HRel (kt X E) G2 H2 ∧ Up H0 H2 ∧ goFor ok g t DD (l.drop (i + 1)) δ2 G2, fun σ2 H2 ⟨δ2, G2, a1, a2, a3, a4⟩ => ⟨l.length - (i + 1), by omega, rfl, hlt, δ2, G2, a1, a2, a3, a4⟩, fun x H2 y => ?_⟩
    obtain ⟨d, e1, u2, h2, r2⟩ := yx x H2 y
    rw [List.getElem?_eq_getElem hlt] at e1
    cases e1
    have u02 := u0.trans (u1.trans u2)
    refine ⟨_, δ1, G1, _, DD.ex, r2, s1.up u2, h2, q1, fun σ3 H3 δ3 G3 u3 s3 h3 q3 => ?_, cx.up u02⟩
    have u03 := u02.trans u3
    refine ⟨δ3, G3, _, s3, h3, q3, fun σ4 H4 δ4 G4 u4 s4 h4 q4 => ⟨δ4, G4, s4, h4, u1.trans (u2.trans (u3.trans u4)), q4⟩, ct.up u03, cn.up u03, fun σ4 H4 δ4 G4 u4 s4 h4 q4 => ⟨δ4, G4, s4, h4, u1.trans (u2.trans (u3.trans u4)), q4⟩, cx.up u03⟩
  · have e : i = l.length := by omega
    subst e
    rw [List.drop_length] at q1
    exact .inl ⟨(so _ H1 G1 u1 h1 q1.1).2 (Nat.le_refl _), cn _ _ _ _ (u0.trans u1) s1 h1 q1.2⟩
theorem pds_for {tg iter : Expr} {di : DI} (hp : PassesOwn (model X.prog X.w) X.A X.env X.xe) (hc : X.calm = true) (hi : PDI X E tg iter di) (hg : PDG X E tg g) (hb : PDSs X E body t)
    (hs : ∀ x, foldedSetIterable iter X.env x = pure x := by intro _; rfl) : PDS X E (.For tg iter body [] pos) (sFor di g t) := ⟨imS (ps_for hp hc hi.pi hg.pg hb.ps hs) fun _ _ _ => up_for⟩
end
end Cc
/-! ### comprehensions, slices, methods, objects -/
namespace Cc
open PySem PySem.Spec PyProof.Rows L2
abbrev noX : DX := fun _ _ _ => False
abbrev noE : XK := fun _ _ _ => False
theorem CloX.no {K : KT} {H : Hp} : CloX K H noE noX := fun _ _ _ _ _ _ h => h
theorem wipe_get {σ : L2.St} {i : Nat} : ∀ {vs : List Nat}, (wipe σ vs)[i]? = if i ∈ vs then (σ[i]?).map (fun _ => none) else σ[i]?
  | [] => by simp [wipe]
  | v :: vs => by
    unfold wipe
    by_cases hb : v = i
    · subst hb
      by_cases hl : v < σ.length
      · rw [List.getElem?_set_self (by rw [wipe_length]; exact hl), if_pos (List.mem_cons_self), List.getElem?_eq_getElem hl]
        rfl
      · rw [List.getElem?_eq_none (by rw [List.length_set, wipe_length]; omega), if_pos (List.mem_cons_self), List.getElem?_eq_none (by omega)]
        rfl
    · rw [List.getElem?_set_ne hb, wipe_get (vs := vs)]
      by_cases hm : i ∈ vs
      · rw [if_pos hm, if_pos (List.mem_cons_of_mem _ hm)]
      · rw [if_neg hm, if_neg (by simp only [List.mem_cons, not_or]; exact ⟨fun e => hb e.symm, hm⟩)]
theorem wipe_set {σ : L2.St} {i : Nat} {o : Option V} {vs : List Nat} (h : i ∈ vs) : wipe (σ.set i o) vs = wipe σ vs := by
  apply List.ext_getElem?
  intro j
  rw [wipe_get, wipe_get]
  by_cases hj : j ∈ vs
  · rw [if_pos hj, if_pos hj]
    by_cases hb : i = j
    · subst hb
      by_cases hl : i < σ.length
      · rw [List.getElem?_set_self hl, List.getElem?_eq_getElem hl]
        rfl
      · rw [List.getElem?_eq_none (by rw [List.length_set]; omega), List.getElem?_eq_none (by omega)]
    · rw [List.getElem?_set_ne hb]
  · rw [if_neg hj, if_neg hj, List.getElem?_set_ne (by intro e; subst e; exact hj h)]
theorem wipe_wipe {σ : L2.St} {vs : List Nat} : wipe (wipe σ vs) vs = wipe σ vs := by
  apply List.ext_getElem?
  intro j
  rw [wipe_get]
  by_cases hj : j ∈ vs
  · rw [if_pos hj, wipe_get, if_pos hj]
    cases σ[j]? <;> rfl
  · rw [if_neg hj]
def wipeD (δ : DS) : List Nat → DS
  | [] => δ
  | v :: vs => (wipeD δ vs).set v none
theorem SRel.setNone {K : KT} {H : Hp} {σ : L2.St} {δ : DS} {i : Nat} (h : SRel K H σ δ) : SRel K H (σ.set i none) (δ.set i none) := by
  refine ⟨by rw [List.length_set, List.length_set]; exact h.1, fun j d q => ?_⟩
  by_cases hb : i = j
  · subst hb
    by_cases hl : i < δ.length
    · rw [List.getElem?_set_self hl] at q; cases q
    · rw [List.getElem?_eq_none (by rw [List.length_set]; omega)] at q; cases q
  · rw [List.getElem?_set_ne hb] at q ⊢
    exact h.2 j d q
theorem SRel.wipe {K : KT} {H : Hp} {σ : L2.St} {δ : DS} (h : SRel K H σ δ) : ∀ vs : List Nat, SRel K H (L2.wipe σ vs) (wipeD δ vs)
  | [] => h
  | v :: vs => (SRel.wipe h vs).setNone
/-- a target of a comprehension: names of its own -/
def CT (vs : List Nat) (g : TG) : Prop := ∀ v σ H Q, g v σ H Q → g v σ H fun σ2 H2 => wipe σ2 vs = wipe σ vs ∧ Q σ2 H2
def CTs (vs : List Nat) (g : TGs) : Prop := ∀ v σ H Q, g v σ H Q → g v σ H fun σ2 H2 => wipe σ2 vs = wipe σ vs ∧ Q σ2 H2
section
variable {X : Cx} {E : EK} {a b c e : Expr} {es rest : List Expr} {pos : Pos} {da db dc de : DE} {dA dB : DT} {dl : DA} {g : DG} {gs : DGs} {st : Stmt} {sts body : List Stmt} {t u : DSt} {vs : List Nat}
structure PDTs (X : Cx) (E : EK) (ifs : List Expr) (t : DT) : Prop where
  ts : PTs X ifs (upT (kt X E) noE t)
def dYes : DT := fun _ G R _ => R true G
theorem pdts_nil : PDTs X E [] dYes := ⟨⟨fun pins s σ H Q I ⟨δ, G, R, EX, sr, hr, h, cr, cx⟩ => wpAny_tests_nil ⟨H, I, cr _ _ _ (Up.refl H) hr h⟩⟩⟩
theorem pdts_one (h : PDT X (noE, E.2) c dA) : PDTs X E [c] dA := ⟨pts_one h.pt⟩
/-- a comprehension over l, the new list at D -/
def goLc (ok : DH → Prop) (D : Addr) (g : DG) (tt : DT) (te : DE) (k : DH → Prop) (δ : DS) : List Cc.D → DH → Prop
  | [], G => ok G ∧ k G
  | x :: xs, G => ok G ∧ g x δ G (fun δ2 G2 => tt δ2 G2 (fun b G3 => if b = true then te δ2 G3 (fun y G4 => ∃ acc, G4 D = some (.lst acc) ∧ acc.length < sizeLine ∧ goLc ok D g tt te k δ xs (updD G4 D (.lst (acc ++ [y])))) noX else goLc ok D g tt te k δ xs G3) noX) noX
def dLc (di : DI) (g : DG) (tt : DT) (te : DE) (vs : List Nat) : DE := fun δ G R EX => di δ G (fun l ok G1 => ∀ D, G1 D = none → goLc ok D g tt te (fun G => R (.ref D) G) (wipeD δ vs) l (updD G1 D (.lst []))) EX
theorem up_lc {E : XK} {di : DI} {g0 : TG} {K : KT} (cg : CT vs g0) (lg : ∀ v σ H Q, upG K noE g v σ H Q → g0 v σ H Q) {σ : L2.St} {H : Hp} {Q : VK} : up K E (dLc di g dA de vs) σ H Q → tLc (upI K E di) g0 (upT K noE dA) (up K noE de) vs σ H Q := fun ⟨δ, G, R, EX, sr, hr, h, cr, cx⟩ => by
  refine ⟨δ, G, _, EX, sr, hr, h, fun J l ok H0 G0 u0 h0 so q0 => ?_, cx⟩
  intro D hD
  have sr0 := sr.up u0
  have uD : Up H0 (upd H0 D (.lst [])) := Up.new hD
  refine ⟨fun i m H => m = l.length - i ∧ i ≤ l.length ∧ ∃ G, HRel K G H ∧ Up H0 H ∧ goLc ok D g dA de (fun G => R (.ref D) G) (wipeD δ vs) (l.drop i) G, ⟨l.length, by simp, Nat.zero_le _, _, h0.new (c := .lst []) hD ⟨[], upd_same, .nil⟩, uD, by simpa using q0 D (h0.none hD)⟩, ?_⟩
  rintro i m H1 ⟨rfl, hi, G1, h1, u1, q1⟩
  by_cases hlt : i < l.length
  · rw [List.drop_eq_getElem_cons hlt] at q1
    obtain ⟨k1, q1⟩ := q1
    obtain ⟨gx, yx⟩ := (so i H1 G1 u1 h1 k1).1 hlt
    refine .inr ⟨gx, fun H2 => ∃ G2, HRel K G2 H2 ∧ Up H0 H2 ∧ goLc ok D g dA de (fun G => R (.ref D) G) (wipeD δ vs) (l.drop (i + 1)) G2, fun H2 ⟨G2, a2, a3, a4⟩ => ⟨l.length - (i + 1), by omega, rfl, hlt, G2, a2, a3, a4⟩, fun x H2 y => ?_⟩
    obtain ⟨d, e1, u2, h2, r2⟩ := yx x H2 y
    rw [List.getElem?_eq_getElem hlt] at e1
    cases e1
    have u12 := u1.trans u2
    have cw := cg x (wipe σ vs) H2 (fun σ3 H3 => upT K noE dA σ3 H3 fun b H4 => if b = true then up K noE de σ3 H4 fun y H5 => ∃ acc, H5 D = some (.lst acc) ∧ acc.length < sizeLine ∧ (∃ G2, HRel K G2 (upd H5 D (.lst (acc ++ [y]))) ∧ Up H0 (upd H5 D (.lst (acc ++ [y]))) ∧ goLc ok D g dA de (fun G => R (.ref D) G) (wipeD δ vs) (l.drop (i + 1)) G2) else (∃ G2, HRel K G2 H4 ∧ Up H0 H4 ∧ goLc ok D g dA de (fun G => R (.ref D) G) (wipeD δ vs) (l.drop (i + 1)) G2))
      (lg _ _ _ _ ⟨_, wipeD δ vs, G1, _, noX, r2, (sr0.up u12).wipe vs, h2, q1, fun σ3 H3 δ3 G3 u3 s3 h3 q3 => ⟨δ3, G3, _, noX, s3, h3, q3, fun b H4 G4 u4 h4 q4 => ?_, CloX.no⟩, CloX.no⟩)
    · rw [wipe_wipe] at cw
      exact cw
    · have u14 := u12.trans (u3.trans u4)
      cases b with
      | true =>
        rw [if_pos rfl] at q4
        refine iteT ?_
        refine ⟨δ3, G4, _, noX, s3.up u4, h4, q4, fun y H5 dy G5 u5 h5 r5 q5 => ?_, CloX.no⟩
        obtain ⟨acc, ea, hl, q5⟩ := q5
        obtain ⟨xs, ex, rx⟩ := h5 D _ ea
        have uw : Up H5 (upd H5 D (.lst (xs ++ [y]))) := Up.put ex trivial
        exact ⟨xs, ex, by rw [rx.length]; exact hl, _, h5.put (c := .lst (acc ++ [dy])) ex trivial ⟨_, upd_same, (rx.up uw).append (.cons (r5.up uw) .nil)⟩, (u14.trans u5).trans uw, q5⟩
      | false =>
        rw [if_neg Bool.false_ne_true] at q4
        refine iteF ?_
        exact ⟨G4, h4, u14, q4⟩
  · have e : i = l.length := by omega
    subst e
    rw [List.drop_length] at q1
    exact .inl ⟨(so _ H1 G1 u1 h1 q1.1).2 (Nat.le_refl _), cr _ _ _ _ (u0.trans u1) h1 (.ref D) q1.2⟩
/-- the block's parts: the target, the tests, the element -/
structure BlkP (X : Cx) (E : EK) (scope : Scope) (vs : List Nat) (tg elt : Expr) (ifs : List Expr) (g : DG) (tt : DT) (te : DE) : Prop where
  g : ∃ g0 : TG, CT vs g0 ∧ (∀ v σ H Q, upG (kt X E) noE g v σ H Q → g0 v σ H Q) ∧ ∀ (s : Shared) (H : Hp) (C : Addr) (cl : List (Str × Addr)) (fp : List Addr), PG (X.blk s H scope (compEnvC scope cl C X.env) fp) tg g0
  t : ∀ (s : Shared) (H : Hp) (C : Addr) (cl : List (Str × Addr)) (fp : List Addr), PDTs (X.blk s H scope (compEnvC scope cl C X.env) fp) E ifs tt
  e : ∀ (s : Shared) (H : Hp) (C : Addr) (cl : List (Str × Addr)) (fp : List Addr), PD (X.blk s H scope (compEnvC scope cl C X.env) fp) (noE, E.2) elt te
theorem pd_lc {elt tg iter : Expr} {ifs : List Expr} {scope : Scope} {own : List (Str × Nat)} {di : DI} {tt : DT} {te : DE} (hc : X.calm = true) (hN : X.N.Nodup) (hi : PDI X E tg iter di) (ok : BlkOk X.N X.env.scope scope own)
    (B : BlkP X E scope (own.map (·.2)) tg elt ifs g tt te) (hs : ∀ x, foldedSetIterable iter X.env x = pure x := by intro _; rfl) : PD X E (.ListComp elt [⟨tg, iter, ifs, 0⟩] scope pos) (dLc di g tt te (own.map (·.2))) := by
  obtain ⟨g0, c0, l0, p0⟩ := B.g
  exact ⟨imE (pe_lc hc hN hi.pi ok p0 (fun s H C cl fp => (B.t s H C cl fp).ts) (fun s H C cl fp => (B.e s H C cl fp).pe) hs) fun _ _ _ => up_lc c0 l0⟩
theorem pds_setLc {i : Nat} {y : Str} {py spos : Pos} {elt tg iter : Expr} {ifs : List Expr} {scope : Scope} {own : List (Str × Nat)} {di : DI} {tt : DT} {te : DE} (hc : X.calm = true) (hN : X.N.Nodup) (hy : X.N[i]? = some y) (hyl : X.env.scope.names.lookup y = some .local)
    (hsw : swapsWith (.ListComp elt [⟨tg, iter, ifs, 0⟩] scope pos) (some (.Name y py)) spos.line X.env = pure true) (hi : PDI X E tg iter di) (ok : BlkOk X.N X.env.scope scope own)
    (B : BlkP X E scope (own.map (·.2)) tg elt ifs g tt te) (hs : ∀ x, foldedSetIterable iter X.env x = pure x := by intro _; rfl) : PDS X E (.Assign [.Name y py] (.ListComp elt [⟨tg, iter, ifs, 0⟩] scope pos) spos) (sAsg (dLc di g tt te (own.map (·.2))) (gN i)) := by
  obtain ⟨g0, c0, l0, p0⟩ := B.g
  refine ⟨imS (ps_setLc (te := up (kt X E) noE te) (tt := upT (kt X E) noE tt) hc hN hy hyl hsw hi.pi ok p0 (fun s H C cl fp => (B.t s H C cl fp).ts) (fun s H C cl fp => (B.e s H C cl fp).pe) hs) fun Dn σ H ⟨δ, G, DD, sr, hr, h, cn, ct, cb, cc, cx⟩ => ?_⟩
  exact up_lc c0 l0 ⟨δ, G, _, DD.ex, sr, hr, h, fun v H1 d G1 u1 h1 r1 q1 => cn _ _ _ _ u1 ((sr.up u1).set r1) h1 q1, cx⟩
end
end Cc
/-! ### what the operators do with data -/
namespace Cc
open PySem PySem.Spec PyProof.Rows L2
/-- a two-place operation on data -/
def OD (X : Cx) (f : Value → Value → Sem Value) (r2 : D2) : Prop := ∃ r : R2, OpR X f r ∧ ∀ T, Lift2 (X.K, T) r r2
def IxD (X : Cx) (r2 : D2) : Prop := ∃ r : R2, IxR X r ∧ ∀ T, Lift2 (X.K, T) r r2
def CD (X : Cx) (f : Value) (r2 : DC) : Prop := ∃ r, CallR X f r ∧ ∀ T, LiftC (X.K, T) r r2
section
variable {X : Cx} {E : EK} {a b c e : Expr} {es : List Expr} {pos : Pos} {da db dc : DE} {dl : DA} {r2 s2 : D2}
theorem pd_bin {op : Operator} (h : OD X (binaryOp op) r2) (ha : PD X E a da) (hb : PD X E b db) : PD X E (.BinOp a op b pos) (dOp r2 da db) := by
  obtain ⟨r, ho, l⟩ := h
  exact pd_op ho l ha hb
theorem pd_cp {op : CmpOp} (h : OD X (compareOp op) r2) (ha : PD X E a da) (hb : PD X E b db) (hm : behindInMarks op b = false := by first | exact nomark _ (by decide) (by decide) | rfl) : PD X E (.Compare a [op] [b] pos) (dOp r2 da db) := by
  obtain ⟨r, ho, l⟩ := h
  exact pd_cmp ho l ha hb hm
theorem pdt_cp {op : CmpOp} (h : OD X (compareOp op) r2) (ha : PD X E a da) (hb : PD X E b db) (hm : behindInMarks op b = false := by first | exact nomark _ (by decide) (by decide) | rfl) : PDT X E (.Compare a [op] [b] pos) (dTest (dOp r2 da db)) := by
  obtain ⟨r, ho, l⟩ := h
  exact pdt_cmp ho l ha hb hm
theorem pd_cp2 {op op' : CmpOp} (h : OD X (compareOp op) r2) (h' : OD X (compareOp op') s2) (ha : PD X E a da) (hb : PD X E b db) (hc : PD X E c dc) (hm : lastMarks [op, op'] [b, c] = false := by with_unfolding_all rfl) : PD X E (.Compare a [op, op'] [b, c] pos) (dChain r2 s2 da db dc) := by
  obtain ⟨r, ho, l⟩ := h
  obtain ⟨r', ho', l'⟩ := h'
  exact pd_chain ho l ho' l' ha hb hc hm
theorem pdt_cp2 {op op' : CmpOp} (h : OD X (compareOp op) r2) (h' : OD X (compareOp op') s2) (ha : PD X E a da) (hb : PD X E b db) (hc : PD X E c dc) (hm : lastMarks [op, op'] [b, c] = false := by with_unfolding_all rfl) : PDT X E (.Compare a [op, op'] [b, c] pos) (dTest (dChain r2 s2 da db dc)) := by
  obtain ⟨r, ho, l⟩ := h
  obtain ⟨r', ho', l'⟩ := h'
  exact pdt_chain ho l ho' l' ha hb hc hm
theorem pd_sub (h : IxD X r2) (ha : PD X E a da) (hb : PD X E b db) (hs : PlainIx b := by intro _ _; rfl) : PD X E (.Subscript a b pos) (dOp r2 da db) := by
  obtain ⟨r, ho, l⟩ := h
  exact pd_ix ho l ha hb hs
theorem pd_blt {id : String} {x : Str} {p : Pos} {r2 : DC} (h : CD X (.builtin id) r2) (hm : X.mg x = none) (hv : bootBuiltins x = some (.builtin id)) (ha : PDA X E (e :: es) dl) (hg : Gl X x := by rfl) (hn : x ≠ "__name__" := by decide) (hdb : (x == ("__debug__" : Str)) = false := by decide)
    (he : starEach (e :: es) X.env = (false, eval e X.env) :: starEach es X.env := by rfl) (hpl : (backTo pos (starEach es X.env)).any (·.1) = false := by rfl) : PD X E (.Call (.Name x p) (e :: es) [] pos) (dCB r2 dl) := by
  obtain ⟨r, ho, l⟩ := h
  exact pd_callB ho l hg hm hv ha hn hdb he hpl
theorem pd_btt {T : String} {x : Str} {p : Pos} {r2 : DC} (h : CD X (.type T) r2) (hm : X.mg x = none) (hv : bootBuiltins x = some (.type T)) (ha : PDA X E (e :: es) dl) (hg : Gl X x := by rfl) (hn : x ≠ "__name__" := by decide) (hdb : (x == ("__debug__" : Str)) = false := by decide)
    (he : starEach (e :: es) X.env = (false, eval e X.env) :: starEach es X.env := by rfl) (hpl : (backTo pos (starEach es X.env)).any (·.1) = false := by rfl) : PD X E (.Call (.Name x p) (e :: es) [] pos) (dCB r2 dl) := by
  obtain ⟨r, ho, l⟩ := h
  exact pd_callTy ho l hg hm hv ha hn hdb he hpl
end
/-! operators -/
theorem Lift2.or {K : KT} {r s : R2} {r2 s2 : D2} (h : Lift2 K r r2) (h' : Lift2 K s s2) : Lift2 K (fun x y H Q => r x y H Q ∨ s x y H Q) (fun x y G R => r2 x y G R ∨ s2 x y G R) := fun x y H d e G R Q a b c q cr => by
  rcases q with q | q
  · exact .inl (h x y H d e G R Q a b c q cr)
  · exact .inr (h' x y H d e G R Q a b c q cr)
theorem Lift2.imp {K : KT} {r : R2} {r2 s2 : D2} (h : Lift2 K r r2) (k : ∀ d e G R, s2 d e G R → r2 d e G R) : Lift2 K r s2 := fun x y H d e G R Q a b c q cr => h x y H d e G R Q a b c (k _ _ _ _ q) cr
section
variable {X : Cx}
def dAdd : D2 := fun x y G R => match x, y with
  | .int i, .int j => R (.int (i + j)) G
  | .str s, .str t => s.length + t.length ≤ sizeLine ∧ R (.str (s ++ t)) G
  | .ref p, .ref q => ∃ l m, G p = some (.lst l) ∧ G q = some (.lst m) ∧ l.length + m.length ≤ sizeLine ∧ ∀ n, G n = none → R (.ref n) (updD G n (.lst (l ++ m)))
  | x, y => match x.tl, y.tl with
    | some l, some m => l.length + m.length ≤ sizeLine ∧ ((l = [] → R y G) ∧ (l ≠ [] → m = [] → R x G) ∧ (l ≠ [] → m ≠ [] → R (.tup (l ++ m)) G))
    | _, _ => False
theorem tup_cat {K : KT} {H : Hp} {x y : V} {d e : D} {l m : List D} {G : DH} {R : DK} {Q : VK} (hr : HRel K G H) (rx : Dv K H x d) (ry : Dv K H y e) (e1 : d.tl = some l) (e2 : e.tl = some m) (z : l.length + m.length ≤ sizeLine)
    (q : (l = [] → R e G) ∧ (l ≠ [] → m = [] → R d G) ∧ (l ≠ [] → m ≠ [] → R (.tup (l ++ m)) G)) (cr : CloR K H Q R) : rCatA K.1 x y H Q := by
  obtain ⟨a, xs, rfl, ha, ra⟩ := rx.sqT e1
  obtain ⟨b, ys, rfl, hb, rb⟩ := ry.sqT e2
  have nl : xs = [] ↔ l = [] := by rw [← List.length_eq_zero_iff, ← List.length_eq_zero_iff, ra.length]
  have nm : ys = [] ↔ m = [] := by rw [← List.length_eq_zero_iff, ← List.length_eq_zero_iff, rb.length]
  refine ⟨a, b, xs, ys, rfl, rfl, ha, hb, by rw [ra.length, rb.length]; exact z, fun h => cr _ _ _ _ (Up.refl H) hr ry (q.1 (nl.mp h)), fun h h' => cr _ _ _ _ (Up.refl H) hr rx (q.2.1 (fun z => h (nl.mpr z)) (nm.mp h')), fun h h' p hp => ?_⟩
  exact cr _ _ _ _ (Up.new hp) (hr.new0 hp) (.tup (SqT.of upd_same) ((ra.append rb).up (Up.new hp))) (q.2.2 (fun z => h (nl.mpr z)) (fun z => h' (nm.mpr z)))
theorem od_add : OD X (binaryOp .Add) dAdd := by
  refine ⟨_, op_add.or (op_add_str.or (op_cat.or op_catA)), fun T x y H d e G R Q hr rx ry q cr => ?_⟩
  unfold dAdd at q
  split at q
  · cases rx
    cases ry
    exact .inl ⟨_, _, rfl, rfl, cr _ _ _ _ (Up.refl H) hr (.int _) q⟩
  · cases rx
    cases ry
    exact .inr (.inl ⟨_, _, rfl, rfl, q.1, cr _ _ _ _ (Up.refl H) hr (.str _) q.2⟩)
  · cases rx
    cases ry
    obtain ⟨l, m, e1, e2, z, q⟩ := q
    obtain ⟨xs, a1, a2⟩ := hr _ _ e1
    obtain ⟨ys, b1, b2⟩ := hr _ _ e2
    exact .inr (.inr (.inl ⟨_, _, xs, ys, rfl, rfl, a1, b1, by rw [a2.length, b2.length]; exact z, fun p hp => cr _ _ _ _ (Up.new hp) (hr.new (c := .lst (l ++ m)) hp ⟨_, upd_same, (a2.append b2).up (Up.new hp)⟩) (.ref p) (q p (hr.none hp))⟩))
  · split at q
    · rename_i l m e1 e2
      exact .inr (.inr (.inr (tup_cat hr rx ry e1 e2 q.1 q.2 cr)))
    · exact False.elim q
def dSub : D2 := fun x y G R => match x, y with
  | .int i, .int j => R (.int (i - j)) G
  | _, _ => False
theorem lift_I {K : KT} {C : Int → Int → Prop} {g : Int → Int → V} {g2 : Int → Int → D} (hg : ∀ i j H, Dv K H (g i j) (g2 i j)) : Lift2 K (rI C g) (fun x y G R => match x, y with
  | .int i, .int j => C i j ∧ R (g2 i j) G
  | _, _ => False) := fun x y H d e G R Q hr rx ry q cr => by
  dsimp only at q
  split at q
  · cases rx
    cases ry
    exact ⟨_, _, rfl, rfl, q.1, cr _ _ _ _ (Up.refl H) hr (hg _ _ H) q.2⟩
  · exact False.elim q
theorem lift_I0 {K : KT} {g : Int → Int → V} {g2 : Int → Int → D} (hg : ∀ i j H, Dv K H (g i j) (g2 i j)) : Lift2 K (rI0 g) (fun x y G R => match x, y with
  | .int i, .int j => R (g2 i j) G
  | _, _ => False) := fun x y H d e G R Q hr rx ry q cr => by
  dsimp only at q
  split at q
  · cases rx
    cases ry
    exact ⟨_, _, rfl, rfl, cr _ _ _ _ (Up.refl H) hr (hg _ _ H) q⟩
  · exact False.elim q
theorem od_sub : OD X (binaryOp .Sub) dSub := ⟨_, op_sub, fun _ => lift_I0 fun _ _ _ => .int _⟩
def dMul : D2 := fun x y G R => match x, y with
  | .int i, .int j => CMul i j ∧ R (.int (i * j)) G
  | .ref p, .int k => ∃ l, G p = some (.lst l) ∧ -(2 ^ 63) ≤ k ∧ k < 2 ^ 63 ∧ l.length * k.toNat ≤ sizeLine ∧ ∀ n, G n = none → R (.ref n) (updD G n (.lst (List.replicate k.toNat l).flatten))
  | _, _ => False
theorem DvL.rep {K : KT} {H : Hp} {v : List V} {d : List D} (h : DvL K H v d) : ∀ k : Nat, DvL K H (List.replicate k v).flatten (List.replicate k d).flatten
  | 0 => .nil
  | k + 1 => by rw [List.replicate_succ, List.replicate_succ, List.flatten_cons, List.flatten_cons]; exact h.append (DvL.rep h k)
theorem od_mul : OD X (binaryOp .Mult) dMul := by
  refine ⟨_, op_mul.or op_rep, fun T x y H d e G R Q hr rx ry q cr => ?_⟩
  unfold dMul at q
  split at q
  · cases rx
    cases ry
    exact .inl ⟨_, _, rfl, rfl, q.1, cr _ _ _ _ (Up.refl H) hr (.int _) q.2⟩
  · cases rx
    cases ry
    obtain ⟨l, e1, h1, h2, z, q⟩ := q
    obtain ⟨xs, a1, a2⟩ := hr _ _ e1
    exact .inr ⟨_, _, xs, rfl, rfl, a1, h1, h2, by rw [a2.length]; exact z, fun p hp => cr _ _ _ _ (Up.new hp) (hr.new (c := .lst _) hp ⟨_, upd_same, (a2.rep _).up (Up.new hp)⟩) (.ref p) (q p (hr.none hp))⟩
  · exact False.elim q
def dFdiv : D2 := fun x y G R => match x, y with
  | .int i, .int j => CDiv i j ∧ R (.int (i / j)) G
  | _, _ => False
theorem od_fdiv : OD X (binaryOp .FloorDiv) dFdiv := ⟨_, op_fdiv, fun _ => lift_I fun _ _ _ => .int _⟩
def dMod : D2 := fun x y G R => match x, y with
  | .int i, .int j => 0 < j ∧ R (.int (i % j)) G
  | _, _ => False
theorem od_mod : OD X (binaryOp .Mod) dMod := ⟨_, op_mod, fun _ => lift_I fun _ _ _ => .int _⟩
def dPow : D2 := fun x y G R => match x, y with
  | .int i, .int j => CPow i j ∧ R (.int (i ^ j.toNat)) G
  | _, _ => False
theorem od_pow : OD X (binaryOp .Pow) dPow := ⟨_, op_pow, fun _ => lift_I fun _ _ _ => .int _⟩
def dLt : D2 := fun x y G R => match x, y with
  | .int i, .int j => R (.bl (decide (i < j))) G
  | _, _ => False
theorem od_lt : OD X (compareOp .Lt) dLt := ⟨_, op_lt, fun _ => lift_I0 fun _ _ _ => .bl _⟩
def dLe : D2 := fun x y G R => match x, y with
  | .int i, .int j => R (.bl (decide (i ≤ j))) G
  | _, _ => False
theorem od_le : OD X (compareOp .LtE) dLe := ⟨_, op_le, fun _ => lift_I0 fun _ _ _ => .bl _⟩
def dGt : D2 := fun x y G R => match x, y with
  | .int i, .int j => R (.bl (decide (j < i))) G
  | _, _ => False
theorem od_gt : OD X (compareOp .Gt) dGt := ⟨_, op_gt, fun _ => lift_I0 fun _ _ _ => .bl _⟩
def dGe : D2 := fun x y G R => match x, y with
  | .int i, .int j => R (.bl (decide (j ≤ i))) G
  | _, _ => False
theorem od_ge : OD X (compareOp .GtE) dGe := ⟨_, op_ge, fun _ => lift_I0 fun _ _ _ => .bl _⟩
/-! is None -/
def D.isN : D → Bool
  | .non => true
  | _ => false
theorem Dv.isN {K : KT} {H : Hp} {v : V} {d : D} (h : Dv K H v d) : decide (v = V.non) = d.isN := by cases h <;> simp [D.isN]
def dIsN : D2 := fun x y G R => match y with
  | .non => R (.bl x.isN) G
  | _ => False
theorem od_isN : OD X (compareOp .Is) dIsN := ⟨_, op_isN, fun T x y H d e G R Q hr rx ry q cr => by
  unfold dIsN at q
  split at q
  · cases ry
    refine ⟨rfl, cr _ _ _ _ (Up.refl H) hr (.bl _) ?_⟩
    rw [rx.isN]; exact q
  · exact False.elim q⟩
def dNotN : D2 := fun x y G R => match y with
  | .non => R (.bl (!x.isN)) G
  | _ => False
theorem od_notN : OD X (compareOp .IsNot) dNotN := ⟨_, op_notN, fun T x y H d e G R Q hr rx ry q cr => by
  unfold dNotN at q
  split at q
  · cases ry
    refine ⟨rfl, cr _ _ _ _ (Up.refl H) hr (.bl _) ?_⟩
    rw [rx.isN]; exact q
  · exact False.elim q⟩
/-! == : what reads as data -/
mutual
inductive Rdd (G : DH) : D → PyData → Prop
  | non : Rdd G .non .none
  | bl (b : Bool) : Rdd G (.bl b) (.bool b)
  | int (i : Int) : Rdd G (.int i) (.int i)
  | str (x : Str) : Rdd G (.str x) (.str x)
  | tup {d : D} {l : List D} {ts : List PyData} : d.tl = some l → RddL G l ts → Rdd G d (.tuple ts)
  | rol {l : List D} {ts : List PyData} : RddL G l ts → Rdd G (.rol l) (.list ts)
  | lst {a : Addr} {l : List D} {ts : List PyData} : G a = some (.lst l) → RddL G l ts → Rdd G (.ref a) (.list ts)
inductive RddL (G : DH) : List D → List PyData → Prop
  | nil : RddL G [] []
  | cons {d : D} {ds : List D} {t : PyData} {ts : List PyData} : Rdd G d t → RddL G ds ts → RddL G (d :: ds) (t :: ts)
end
mutual
theorem Rdd.dp {K : KT} {G : DH} {H : Hp} (hr : HRel K G H) : ∀ {d : D} {t : PyData} {v : V}, Rdd G d t → Dv K H v d → Dp K.1 H v t
  | _, _, _, .non, r => by cases r; exact .non
  | _, _, _, .bl b, r => by cases r; exact .bl b
  | _, _, _, .int i, r => by cases r; exact .int i
  | _, _, _, .str x, r => by cases r; exact .str x
  | _, _, _, .tup e s, r => by
    obtain ⟨a, xs, rfl, hq, ra⟩ := r.sqT e
    exact .tup hq (RddL.dp hr s ra)
  | _, _, _, .rol s, r => by
    cases r with
    | rol hq ra => exact .lst hq.sqL (RddL.dp hr s ra)
  | _, _, _, .lst e s, r => by
    cases r
    obtain ⟨xs, e1, ra⟩ := hr _ _ e
    exact .lst (SqL.of e1) (RddL.dp hr s ra)
theorem RddL.dp {K : KT} {G : DH} {H : Hp} (hr : HRel K G H) : ∀ {d : List D} {t : List PyData} {v : List V}, RddL G d t → DvL K H v d → DpAll K.1 H v t
  | _, _, _, .nil, r => by cases r; exact .nil
  | _, _, _, .cons h s, r => by
    cases r with
    | cons r1 r2 => exact .cons (Rdd.dp hr h r1) (RddL.dp hr s r2)
end
/-- == of two values that read as data -/
def dEqG (x y : D) (G : DH) (R : Bool → Prop) : Prop := ∃ t u, Rdd G x t ∧ Rdd G y u ∧ SeqAt.shaped t = true ∧ SeqAt.shaped u = true ∧ R (PyData.eqv t u)
def dEq : D2 := fun x y G R => match x, y with
  | .int i, .int j => R (.bl (decide (i = j))) G
  | .str s, .str t => R (.bl (decide (s = t))) G
  | .bl b, .bl c => R (.bl (decide (b = c))) G
  | x, y => dEqG x y G fun k => R (.bl k) G
def dNe : D2 := fun x y G R => match x, y with
  | .int i, .int j => R (.bl (!decide (i = j))) G
  | .str s, .str t => R (.bl (!decide (s = t))) G
  | .bl b, .bl c => R (.bl (!decide (b = c))) G
  | x, y => dEqG x y G fun k => R (.bl (!k)) G
theorem dec_i {i j : Int} : decide (V.int i = V.int j) = decide (i = j) := decide_eq_decide.mpr ⟨fun h => V.int.inj h, fun h => congrArg _ h⟩
theorem dec_s {i j : Str} : decide (V.str i = V.str j) = decide (i = j) := decide_eq_decide.mpr ⟨fun h => V.str.inj h, fun h => congrArg _ h⟩
theorem dec_b {i j : Bool} : decide (V.bl i = V.bl j) = decide (i = j) := decide_eq_decide.mpr ⟨fun h => V.bl.inj h, fun h => congrArg _ h⟩
theorem od_eq (hu : X.A.units + 64 < cLine) : OD X (compareOp .Eq) dEq := ⟨_, op_eq.or (op_eqD hu), fun T x y H d e G R Q hr rx ry q cr => by
  unfold dEq at q
  split at q
  · cases rx
    cases ry
    refine .inl ⟨rfl, cr _ _ _ _ (Up.refl H) hr (.bl _) ?_⟩
    rw [dec_i]; exact q
  · cases rx
    cases ry
    refine .inl ⟨rfl, cr _ _ _ _ (Up.refl H) hr (.bl _) ?_⟩
    rw [dec_s]; exact q
  · cases rx
    cases ry
    refine .inl ⟨rfl, cr _ _ _ _ (Up.refl H) hr (.bl _) ?_⟩
    rw [dec_b]; exact q
  · obtain ⟨t, u, h1, h2, h3, h4, q⟩ := q
    exact .inr ⟨t, u, h1.dp hr rx, h2.dp hr ry, h3, h4, cr _ _ _ _ (Up.refl H) hr (.bl _) q⟩⟩
theorem od_ne (hu : X.A.units + 64 < cLine) : OD X (compareOp .NotEq) dNe := ⟨_, op_ne.or (op_neD hu), fun T x y H d e G R Q hr rx ry q cr => by
  unfold dNe at q
  split at q
  · cases rx
    cases ry
    refine .inl ⟨rfl, cr _ _ _ _ (Up.refl H) hr (.bl _) ?_⟩
    rw [dec_i]; exact q
  · cases rx
    cases ry
    refine .inl ⟨rfl, cr _ _ _ _ (Up.refl H) hr (.bl _) ?_⟩
    rw [dec_s]; exact q
  · cases rx
    cases ry
    refine .inl ⟨rfl, cr _ _ _ _ (Up.refl H) hr (.bl _) ?_⟩
    rw [dec_b]; exact q
  · obtain ⟨t, u, h1, h2, h3, h4, q⟩ := q
    exact .inr ⟨t, u, h1.dp hr rx, h2.dp hr ry, h3, h4, cr _ _ _ _ (Up.refl H) hr (.bl _) q⟩⟩
/-! subscripts -/
def D.ky : D → Option Key
  | .int i => some (.inl i)
  | .str s => some (.inr s)
  | _ => none
def lookK {κ : Type} [DecidableEq κ] (kvs : List (κ × D)) (k : κ) : Option D := (kvs.find? fun p => decide (p.1 = k)).map (·.2)
def itemOf (G : DH) (x y : D) : Option D := match x with
  | .str z => (match y with
    | .int i => if z.length ≤ sizeLine then (atI z.cps.toList i).map fun c => .str ⟨#[c]⟩ else none
    | _ => none)
  | .ref a => (match G a with
    | some (.lst l) => (match y with
      | .int i => atI l i
      | _ => none)
    | some (.dK kvs) => y.ky.bind (lookK kvs)
    | some (.dT kvs) => (match y with
      | .key ks => lookK kvs ks
      | _ => none)
    | _ => none)
  | .rol l => (match y with
    | .int i => atI l i
    | _ => none)
  | .tup l => (match y with
    | .int i => atI l i
    | _ => none)
  | .key ks => (match y with
    | .int i => atI (ks.map kD) i
    | _ => none)
  | _ => none
def dIx : D2 := fun x y G R => match itemOf G x y with
  | some d => R d G
  | none => False
theorem DvL.atI {K : KT} {H : Hp} {v : List V} {d : List D} {i : Int} {x : D} (r : DvL K H v d) (e : L2.atI d i = some x) : ∃ u, L2.atI v i = some u ∧ Dv K H u x := by
  unfold L2.atI at e ⊢
  rw [r.length]
  cases q : ixN d.length i with
  | none => rw [q] at e; cases e
  | some j =>
    rw [q] at e
    exact r.get (show d[j]? = some x from e)
theorem KVr.look {K : KT} {H : Hp} {κ : Type} [DecidableEq κ] {xs : List (κ × V)} {ys : List (κ × D)} {k : κ} : KVr K H xs ys → ∀ {d : D}, lookK ys k = some d → ∃ v, valV xs k = some v ∧ Dv K H v d := fun r => by
  induction r with
  | nil => intro d e; cases e
  | @cons p q l m h t ih =>
    intro d e
    unfold lookK at e
    rw [List.find?_cons] at e
    by_cases hk : q.1 = k
    · rw [decide_eq_true hk] at e
      cases e
      exact ⟨_, valV_pos (h.1.trans hk), h.2⟩
    · rw [decide_eq_false hk] at e
      obtain ⟨v, e1, e2⟩ := ih e
      exact ⟨v, by rw [valV_neg (fun z => hk (h.1 ▸ z))]; exact e1, e2⟩
theorem KVr.lookN {K : KT} {H : Hp} {κ : Type} [DecidableEq κ] {xs : List (κ × V)} {ys : List (κ × D)} {k : κ} : KVr K H xs ys → lookK ys k = none → valV xs k = none := fun r => by
  induction r with
  | nil => intro e; rfl
  | @cons p q l m h t ih =>
    intro e
    unfold lookK at e
    rw [List.find?_cons] at e
    by_cases hk : q.1 = k
    · rw [decide_eq_true hk] at e
      cases e
    · rw [decide_eq_false hk] at e
      rw [valV_neg (fun z => hk (h.1 ▸ z))]
      exact ih e
theorem ky_v {K : KT} {H : Hp} {v : V} {d : D} {k : Key} (h : Dv K H v d) (e : d.ky = some k) : v = kV k := by
  cases h <;> cases e <;> rfl
theorem ix_dict (hu : X.A.units + 1 < cLine) : IxR X (fun x y H Q => ∃ a v, x = .ref a ∧ DGet H a y (some v) ∧ Q v H) := by
  intro value slice pins s σ H x y v u Q I rx ry h hs
  obtain ⟨a, w', ex, g, q⟩ := h
  subst ex
  cases rx
  exact tail_any (dict_typeIs I g) PySem.F.slot_dict_getitem.lookup (d_getItem hu I g ry fun w2 s' I' r' => ⟨w', H, I', r', q⟩) hs
theorem ixd (hu : X.A.units + 1 < cLine) : IxD X dIx := ⟨_, ix_seq.or (ix_dict hu), fun T x y H d e G R Q hr rx ry q cr => by
  unfold dIx at q
  split at q
  · rename_i r er
    unfold itemOf at er
    split at er
    · cases rx
      split at er
      · cases ry
        split at er
        · rename_i z i hl
          rw [Option.map_eq_some_iff] at er
          obtain ⟨c, e1, e2⟩ := er
          subst e2
          exact .inl (.inr (.inr ⟨_, _, c, rfl, rfl, hl, e1, cr _ _ _ _ (Up.refl H) hr (.str _) q⟩))
        · cases er
      · cases er
    · cases rx
      split at er
      · rename_i a l ea
        split at er
        · cases ry
          obtain ⟨xs, e1, r1⟩ := hr _ _ ea
          obtain ⟨u, e2, r2⟩ := r1.atI er
          exact .inl (.inl ⟨_, xs, _, u, rfl, rfl, SqL.of e1, e2, cr _ _ _ _ (Up.refl H) hr r2 q⟩)
        · cases er
      · rename_i a kvs ea
        obtain ⟨k, e1, e2⟩ := Option.bind_eq_some_iff.mp er
        obtain ⟨ys, e3, r3⟩ := hr _ _ ea
        obtain ⟨u, e4, r4⟩ := r3.look e2
        rw [ky_v ry e1]
        refine .inr ⟨_, u, rfl, ?_, cr _ _ _ _ (Up.refl H) hr r4 q⟩
        rw [← e4]
        exact DGet.k e3
      · rename_i a kvs ea
        split at er
        · cases ry with
          | key eb =>
            obtain ⟨ys, e3, r3⟩ := hr _ _ ea
            obtain ⟨u, e4, r4⟩ := r3.look er
            refine .inr ⟨_, u, rfl, ?_, cr _ _ _ _ (Up.refl H) hr r4 q⟩
            rw [← e4]
            exact DGet.t e3 eb
        · cases er
      · cases er
    · split at er
      · cases ry
        cases rx with
        | rol hq r1 =>
          obtain ⟨u, e2, r2⟩ := r1.atI er
          exact .inl (.inl ⟨_, _, _, u, rfl, rfl, hq.sqL, e2, cr _ _ _ _ (Up.refl H) hr r2 q⟩)
      · cases er
    · split at er
      · cases ry
        cases rx with
        | tup hq r1 =>
          obtain ⟨u, e2, r2⟩ := r1.atI er
          exact .inl (.inr (.inl ⟨_, _, _, u, rfl, rfl, hq, e2, cr _ _ _ _ (Up.refl H) hr r2 q⟩))
      · cases er
    · split at er
      · cases ry
        cases rx with
        | key hq =>
          obtain ⟨u, e2, r2⟩ := (dvL_kD (K := (X.K, T)) (H := H) _).atI er
          exact .inl (.inr (.inl ⟨_, _, _, u, rfl, rfl, SqT.of hq, e2, cr _ _ _ _ (Up.refl H) hr r2 q⟩))
      · cases er
    · cases er
  · exact False.elim q⟩
end
end Cc
/-! ### built-ins, methods of built-in types, stores -/
namespace Cc
open PySem PySem.Spec PyProof.Rows L2
/-! in, not in -/
def D.flat : D → Bool
  | .non => true
  | .bl _ => true
  | .int _ => true
  | .str _ => true
  | _ => false
def eqF : D → D → Bool
  | .non, .non => true
  | .bl a, .bl b => a == b
  | .bl a, .int b => (if a then 1 else 0) == b
  | .int a, .bl b => a == (if b then 1 else 0)
  | .int a, .int b => a == b
  | .str a, .str b => a == b
  | _, _ => false
def inF (x : D) (l : List D) : Bool := l.any fun y => eqF y x
section
variable {K : KT} {H : Hp}
theorem Dv.flat {v : V} {d : D} (h : Dv K H v d) (f : d.flat = true) : flatV v = true := by cases h <;> first | rfl | cases f
theorem Dv.eqF {v u : V} {d e : D} (h : Dv K H v d) (h' : Dv K H u e) (f : d.flat = true) (f' : e.flat = true) : eqV v u = Cc.eqF d e := by
  cases h <;> first | cases f; done | (cases h' <;> first | rfl | cases f')
theorem DvL.flat : ∀ {v : List V} {d : List D}, DvL K H v d → d.all D.flat = true → v.all flatV = true
  | _, _, .nil, _ => rfl
  | _, _, .cons h r, f => by
    rw [List.all_cons, Bool.and_eq_true] at f ⊢
    exact ⟨h.flat f.1, DvL.flat r f.2⟩
theorem DvL.inF {u : V} {e : D} (h' : Dv K H u e) (f' : e.flat = true) : ∀ {v : List V} {d : List D}, DvL K H v d → d.all D.flat = true → inV u v = Cc.inF e d
  | _, _, .nil, _ => rfl
  | _, _, .cons h r, f => by
    rw [List.all_cons, Bool.and_eq_true] at f
    have ih := DvL.inF h' f' r f.2
    unfold inV Cc.inF at ih ⊢
    rw [List.any_cons, List.any_cons, h.eqF h' f.1 f', ih]
end
/-- what y holds, as a sequence -/
def seqOf (G : DH) (y : D) : Option (List D) := match y with
  | .ref a => (match G a with
    | some (.lst l) => some l
    | _ => none)
  | .rol l => some l
  | y => y.tl
theorem seqOf_sq {K : KT} {G : DH} {H : Hp} {v : V} {y : D} {l : List D} (hr : HRel K G H) (r : Dv K H v y) (e : seqOf G y = some l) : ∃ p xs, v = .ref p ∧ (SqL K.1 H p xs ∨ SqT K.1 H p xs) ∧ DvL K H xs l := by
  unfold seqOf at e
  split at e
  · cases r
    split at e
    · rename_i a l' ea
      cases e
      obtain ⟨xs, h1, h2⟩ := hr _ _ ea
      exact ⟨_, xs, rfl, .inl (SqL.of h1), h2⟩
    · cases e
  · cases e
    cases r with
    | rol hq h2 => exact ⟨_, _, rfl, .inl hq.sqL, h2⟩
  · obtain ⟨a, xs, h1, h2, h3⟩ := r.sqT e
    exact ⟨a, xs, h1, .inr h2, h3⟩
/-- the answer of x in y -/
def inOf (G : DH) (x y : D) : Option Bool := match y with
  | .str z => (match x with
    | .str c => if c.cps.size = 1 then some (decide (c.cps.toList.headD 0 ∈ z.cps.toList)) else none
    | _ => none)
  | .ref a => (match G a with
    | some (.lst l) => if x.flat && l.all D.flat then some (inF x l) else none
    | some (.dK kvs) => x.ky.map fun k => (lookK kvs k).isSome
    | some (.dT kvs) => (match x with
      | .key ks => some (lookK kvs ks).isSome
      | _ => none)
    | _ => none)
  | y => (match seqOf G y with
    | some l => if x.flat && l.all D.flat then some (inF x l) else none
    | none => none)
def dIn : D2 := fun x y G R => match inOf G x y with
  | some b => R (.bl b) G
  | none => False
def dNotIn : D2 := fun x y G R => match inOf G x y with
  | some b => R (.bl (!b)) G
  | none => False
theorem str1 {c : Str} (h : c.cps.size = 1) : c = ⟨#[c.cps.toList.headD 0]⟩ := by
  obtain ⟨⟨l⟩⟩ := c
  match l, h with
  | [x], _ => rfl
theorem KVr.lookS {K : KT} {H : Hp} {κ : Type} [DecidableEq κ] {xs : List (κ × V)} {ys : List (κ × D)} {k : κ} (r : KVr K H xs ys) : (valV xs k).isSome = (lookK ys k).isSome := by
  cases e : lookK ys k with
  | none =>
    rw [r.lookN e]
    rfl
  | some d =>
    obtain ⟨v, h, _⟩ := r.look e
    rw [h]
    rfl
section
variable {X : Cx}
theorem in_cases (hu : X.A.units + 1 < cLine) (neg : Bool) : ∃ r : R2, OpR X (compareOp (if neg then .NotIn else .In)) r ∧ ∀ (T : List (Addr × Str)) x y H d e G b Q, HRel (X.K, T) G H → Dv (X.K, T) H x d → Dv (X.K, T) H y e → inOf G d e = some b → Q (.bl (if neg then !b else b)) H → r x y H Q := by
  have dict : OpR X (compareOp (if neg then .NotIn else .In)) (fun x y H Q => ∃ a o, y = .ref a ∧ DGet H a x o ∧ Q (.bl (if neg then !o.isSome else o.isSome)) H) := by
    intro pins s σ H x y v u Q I rx ry h
    obtain ⟨a, o, ey, g, q⟩ := h
    subst ey
    cases ry
    cases neg with
    | false => exact d_in hu I g rx fun s' I' => ⟨.bl _, H, I', rfl, q⟩
    | true => exact d_notIn hu I g rx fun s' I' => ⟨.bl _, H, I', rfl, q⟩
  have sq : OpR X (compareOp (if neg then .NotIn else .In)) (rIn X.K neg) := by
    cases neg with
    | false => exact op_in_seq
    | true => exact op_notIn_seq
  have st : OpR X (compareOp (if neg then .NotIn else .In)) (fun x y H Q => ∃ (c : Nat) (z : Str), x = .str ⟨#[c]⟩ ∧ y = .str z ∧ Q (.bl (if neg then !decide (c ∈ z.cps.toList) else decide (c ∈ z.cps.toList))) H) := by
    cases neg with
    | false => exact op_in_sign
    | true => exact op_notIn_sign
  refine ⟨_, sq.or (st.or dict), fun T x y H d e G b Q hr rx ry q h => ?_⟩
  unfold inOf at q
  split at q
  · cases ry
    split at q
    · cases rx
      split at q
      · rename_i c hc
        cases q
        refine .inr (.inl ⟨_, _, congrArg V.str (str1 hc), rfl, h⟩)
      · cases q
    · cases q
  · cases ry
    split at q
    · rename_i a l ea
      split at q
      · rename_i hf
        cases q
        rw [Bool.and_eq_true] at hf
        obtain ⟨xs, h1, h2⟩ := hr _ _ ea
        refine .inl ⟨_, xs, rfl, .inl (SqL.of h1), rx.flat hf.1, h2.flat hf.2, ?_⟩
        rw [h2.inF rx hf.1 hf.2]
        exact h
      · cases q
    · rename_i a kvs ea
      rw [Option.map_eq_some_iff] at q
      obtain ⟨k, e1, e2⟩ := q
      obtain ⟨ys, h1, h2⟩ := hr _ _ ea
      rw [ky_v rx e1]
      refine .inr (.inr ⟨_, _, rfl, DGet.k h1, ?_⟩)
      rw [h2.lookS, e2]
      exact h
    · rename_i a kvs ea
      split at q
      · cases rx with
        | key eb =>
          cases q
          obtain ⟨ys, h1, h2⟩ := hr _ _ ea
          refine .inr (.inr ⟨_, _, rfl, DGet.t h1 eb, ?_⟩)
          rw [h2.lookS]
          exact h
      · cases q
    · cases q
  · split at q
    · rename_i l el
      split at q
      · rename_i hf
        cases q
        rw [Bool.and_eq_true] at hf
        obtain ⟨p, xs, e1, e2, h2⟩ := seqOf_sq hr ry el
        refine .inl ⟨p, xs, e1, e2, rx.flat hf.1, h2.flat hf.2, ?_⟩
        rw [h2.inF rx hf.1 hf.2]
        exact h
      · cases q
    · cases q
theorem od_in (hu : X.A.units + 1 < cLine) : OD X (compareOp .In) dIn := by
  obtain ⟨r, h1, h2⟩ := in_cases (X := X) hu false
  refine ⟨r, h1, fun T x y H d e G R Q hr rx ry q cr => ?_⟩
  unfold dIn at q
  split at q
  · rename_i b eb
    exact h2 T x y H d e G b Q hr rx ry eb (cr _ _ _ _ (Up.refl H) hr (.bl _) q)
  · exact False.elim q
theorem od_notIn (hu : X.A.units + 1 < cLine) : OD X (compareOp .NotIn) dNotIn := by
  obtain ⟨r, h1, h2⟩ := in_cases (X := X) hu true
  refine ⟨r, h1, fun T x y H d e G R Q hr rx ry q cr => ?_⟩
  unfold dNotIn at q
  split at q
  · rename_i b eb
    exact h2 T x y H d e G b Q hr rx ry eb (cr _ _ _ _ (Up.refl H) hr (.bl _) q)
  · exact False.elim q
/-! built-ins -/
def lenOf (G : DH) (x : D) : Option Nat := match x with
  | .str z => if z.length ≤ sizeLine then some z.length else none
  | .ref a => (match G a with
    | some (.lst l) => some l.length
    | some (.dK l) => some l.length
    | _ => none)
  | x => (seqOf G x).map (·.length)
def dLen : DC := fun xs G R => match xs with
  | [x] => (match lenOf G x with
    | some n => R (.int n) G
    | none => False)
  | _ => False
theorem call_lenDK : CallR X (.builtin "len") (fun xs H Q => ∃ a kvs, xs = [V.ref a] ∧ H a = some (.dK kvs) ∧ Q (.int kvs.length) H) := by
  intro pins s σ H xs us Q I r h
  obtain ⟨a, kvs, rfl, e, q⟩ := h
  obtain ⟨u, rfl, ru⟩ := vals1 r
  cases ru
  exact d_len I (.inl e) fun t s' I' => ⟨.int _, H, I', ⟨t, rfl⟩, q⟩
theorem cd_len : CD X (.builtin "len") dLen := ⟨_, call_len.or call_lenDK, fun T x H d G R Q hr r q cr => by
  unfold dLen at q
  split at q
  · cases r with
    | cons r1 r2 =>
      cases r2
      split at q
      · rename_i x n e
        have q' := cr (.int n) H _ G (Up.refl H) hr (.int _) q
        unfold lenOf at e
        split at e
        · cases r1
          split at e
          · rename_i hz
            cases e
            exact .inl ⟨_, _, rfl, ⟨hz, rfl⟩, q'⟩
          · cases e
        · cases r1
          split at e
          · rename_i a l ea
            cases e
            obtain ⟨xs, h1, h2⟩ := hr _ _ ea
            exact .inl ⟨_, _, rfl, .inl ⟨xs, SqL.of h1, h2.length.symm⟩, q'⟩
          · rename_i a l ea
            cases e
            obtain ⟨xs, h1, h2⟩ := hr _ _ ea
            refine .inr ⟨_, xs, rfl, h1, ?_⟩
            rw [Paired.length h2]
            exact q'
          · cases e
        · rw [Option.map_eq_some_iff] at e
          obtain ⟨l, e1, e2⟩ := e
          subst e2
          obtain ⟨p, xs, e3, e4, h2⟩ := seqOf_sq hr r1 e1
          subst e3
          rcases e4 with e4 | e4
          · exact .inl ⟨_, _, rfl, .inl ⟨xs, e4, h2.length.symm⟩, q'⟩
          · exact .inl ⟨_, _, rfl, .inr ⟨xs, e4, h2.length.symm⟩, q'⟩
      · exact False.elim q
  · exact False.elim q⟩
/-- a value's type's name -/
def tyD (G : DH) : D → Option String
  | .non => some "NoneType"
  | .bl _ => some "bool"
  | .int _ => some "int"
  | .str _ => some "str"
  | .tup _ => some "tuple"
  | .key _ => some "tuple"
  | .rol _ => some "list"
  | .ref a => (match G a with
    | some (.lst _) => some "list"
    | some (.dK _) => some "dict"
    | some (.dT _) => some "dict"
    | _ => none)
  | .ty _ => none
def dIsi : DC := fun xs G R => match xs with
  | [x, .ty T] => (match tyD G x with
    | some t => (match kitB t T with
      | some b => R (.bl b) G
      | none => False)
    | none => False)
  | _ => False
theorem tyX_of {K : KT} {G : DH} {H : Hp} {v : V} {d : D} {t : String} (hr : HRel K G H) (r : Dv K H v d) (e : tyD G d = some t) : TyX K.1 H v (.type t) := by
  have tupT : ∀ {a : Addr} {xs : List V}, SqT K.1 H a xs → TyX K.1 H (.ref a) (.type "tuple") := fun {a xs} h => by
    rcases h with (h | ⟨o, h⟩) | ⟨o, its, n, h1, h2, h3⟩
    · exact .base (.tup h)
    · exact .fTuple h
    · exact .kTuple h1 h2
  cases r with
  | non => cases e; exact .base .non
  | bl b => cases e; exact .base (.bl b)
  | int i => cases e; exact .base (.int i)
  | str x => cases e; exact .base (.str x)
  | ty n => cases e
  | tup h _ => cases e; exact tupT h
  | key h => cases e; exact tupT (SqT.of h)
  | rol h _ =>
    cases e
    rcases h with ⟨o, h⟩ | ⟨o, its, n, h1, h2, h3⟩
    · exact .base (.frz h)
    · exact .kList h1 h2
  | ref a =>
    unfold tyD at e
    dsimp only at e
    split at e
    · rename_i l ea
      cases e
      obtain ⟨xs, h1, _⟩ := hr _ _ ea
      exact .base (.lst h1)
    · rename_i l ea
      cases e
      obtain ⟨xs, h1, _⟩ := hr _ _ ea
      exact .base (.dK h1)
    · rename_i l ea
      cases e
      obtain ⟨xs, h1, _⟩ := hr _ _ ea
      exact .base (.dT h1)
    · cases e
theorem cd_isi : CD X (.builtin "isinstance") dIsi := ⟨_, call_isi, fun T x H d G R Q hr r q cr => by
  unfold dIsi at q
  split at q
  · cases r with
    | cons r1 r2 =>
      cases r2 with
      | cons r2 r3 =>
        cases r3
        cases r2
        split at q
        · rename_i t et
          split at q
          · rename_i b eb
            exact ⟨_, _, .type t, _, b, rfl, .ty _, tyX_of hr r1 et, kit_ty eb, cr _ _ _ _ (Up.refl H) hr (.bl _) q⟩
          · exact False.elim q
        · exact False.elim q
  · exact False.elim q⟩
def dAbs : DC := fun xs G R => match xs with
  | [.int i] => R (.int (if i < 0 then -i else i)) G
  | _ => False
theorem cd_abs : CD X (.builtin "abs") dAbs := ⟨_, call_abs, fun T x H d G R Q hr r q cr => by
  unfold dAbs at q
  split at q
  · cases r with
    | cons r1 r2 =>
      cases r2
      cases r1
      exact ⟨_, rfl, cr _ _ _ _ (Up.refl H) hr (.int _) q⟩
  · exact False.elim q⟩
def dMax2 : DC := fun xs G R => match xs with
  | [.int i, .int j] => R (.int (if j > i then j else i)) G
  | _ => False
theorem cd_max2 (hc : X.calm = true) : CD X (.builtin "max") dMax2 := ⟨_, call_max2 hc, fun T x H d G R Q hr r q cr => by
  unfold dMax2 at q
  split at q
  · cases r with
    | cons r1 r2 =>
      cases r2 with
      | cons r2 r3 =>
        cases r3
        cases r1
        cases r2
        exact ⟨_, _, rfl, cr _ _ _ _ (Up.refl H) hr (.int _) q⟩
  · exact False.elim q⟩
def dMin2 : DC := fun xs G R => match xs with
  | [.int i, .int j] => R (.int (if j < i then j else i)) G
  | _ => False
theorem cd_min2 (hc : X.calm = true) : CD X (.builtin "min") dMin2 := ⟨_, call_min2 hc, fun T x H d G R Q hr r q cr => by
  unfold dMin2 at q
  split at q
  · cases r with
    | cons r1 r2 =>
      cases r2 with
      | cons r2 r3 =>
        cases r3
        cases r1
        cases r2
        exact ⟨_, _, rfl, cr _ _ _ _ (Up.refl H) hr (.int _) q⟩
  · exact False.elim q⟩
def dIntC : DC := fun xs G R => match xs with
  | [.int i] => R (.int i) G
  | [.bl b] => R (.int (if b then 1 else 0)) G
  | _ => False
theorem cd_int : CD X (.type "int") dIntC := ⟨_, call_int1, fun T x H d G R Q hr r q cr => by
  unfold dIntC at q
  split at q
  · cases r with
    | cons r1 r2 =>
      cases r2
      cases r1
      exact .inl ⟨_, rfl, cr _ _ _ _ (Up.refl H) hr (.int _) q⟩
  · cases r with
    | cons r1 r2 =>
      cases r2
      cases r1
      exact .inr ⟨_, rfl, cr _ _ _ _ (Up.refl H) hr (.int _) q⟩
  · exact False.elim q⟩
/-- list(xs) -/
def dListC : DC := fun xs G R => match xs with
  | [x] => (match seqOf G x with
    | some l => ∀ p, G p = none → R (.ref p) (updD G p (.lst l))
    | none => False)
  | _ => False
theorem cd_list : CD X (.type "list") dListC := ⟨_, call_list_of, fun T x H d G R Q hr r q cr => by
  unfold dListC at q
  split at q
  · cases r with
    | cons r1 r2 =>
      cases r2
      split at q
      · rename_i l el
        obtain ⟨p, xs, e3, e4, h2⟩ := seqOf_sq hr r1 el
        subst e3
        exact ⟨p, xs, rfl, e4, fun n hn => cr _ _ _ _ (Up.new hn) (hr.new (c := .lst l) hn ⟨xs, upd_same, h2.up (Up.new hn)⟩) (.ref n) (q n (hr.none hn))⟩
      · exact False.elim q
  · exact False.elim q⟩
/-- tuple(xs) -/
def dTupC : DC := fun xs G R => match xs with
  | [.tup l] => R (.tup l) G
  | [.key l] => R (.key l) G
  | [x] => (match seqOf G x with
    | some l => R (.tup l) G
    | none => False)
  | _ => False
theorem cd_tup : CD X (.type "tuple") dTupC := ⟨_, call_tuple_of, fun T x H d G R Q hr r q cr => by
  unfold dTupC at q
  split at q
  · cases r with
    | cons r1 r2 =>
      cases r2
      cases r1 with
      | tup h r => exact ⟨_, _, rfl, .inr ⟨h, cr _ _ _ _ (Up.refl H) hr (.tup h r) q⟩⟩
  · cases r with
    | cons r1 r2 =>
      cases r2
      cases r1 with
      | key h => exact ⟨_, _, rfl, .inr ⟨SqT.of h, cr _ _ _ _ (Up.refl H) hr (.key h) q⟩⟩
  · cases r with
    | cons r1 r2 =>
      cases r2
      split at q
      · rename_i l el
        obtain ⟨p, xs, e3, e4, h2⟩ := seqOf_sq hr r1 el
        subst e3
        rcases e4 with e4 | e4
        · exact ⟨_, xs, rfl, .inl ⟨e4, fun n hn => cr _ _ _ _ (Up.new hn) (hr.new0 hn) (.tup (SqT.of upd_same) (h2.up (Up.new hn))) q⟩⟩
        · exact ⟨_, xs, rfl, .inr ⟨e4, cr _ _ _ _ (Up.refl H) hr (.tup e4 h2) q⟩⟩
      · exact False.elim q
  · exact False.elim q⟩
/-- all(a list of truths) -/
def dAll : DC := fun xs G R => match xs with
  | [.ref a] => ∃ bs : List Bool, G a = some (.lst (bs.map D.bl)) ∧ R (.bl (bs.all id)) G
  | _ => False
theorem dvl_bls {K : KT} {H : Hp} : ∀ {bs : List Bool} {xs : List V}, DvL K H xs (bs.map D.bl) → xs = bs.map V.bl
  | [], _, .nil => rfl
  | b :: bs, _, .cons h r => by
    cases h
    rw [dvl_bls r]
    rfl
theorem cd_all (hc : X.calm = true) : CD X (.builtin "all") dAll := ⟨_, cr_all hc, fun T x H d G R Q hr r q cr => by
  unfold dAll at q
  split at q
  · cases r with
    | cons r1 r2 =>
      cases r2
      cases r1
      obtain ⟨bs, e, q⟩ := q
      obtain ⟨xs, h1, h2⟩ := hr _ _ e
      rw [dvl_bls h2] at h1
      exact ⟨_, bs, rfl, SqL.of h1, cr _ _ _ _ (Up.refl H) hr (.bl _) q⟩
  · exact False.elim q⟩
end
/-! methods of built-in types -/
abbrev DM := D → List D → DH → DK → Prop
def LiftM (K : KT) (r : V → List V → Hp → VK → Prop) (r2 : DM) : Prop := ∀ x xs H d ds G R Q, HRel K G H → Dv K H x d → DvL K H xs ds → r2 d ds G R → CloR K H Q R → r x xs H Q
def MD (X : Cx) (id : String) (r2 : DM) : Prop := ∃ r, MtR X id r ∧ ∀ T, LiftM (X.K, T) r r2
/-- the receiver is of that type -/
def tyR (G : DH) (T : String) (x : D) : Prop := match x with
  | .str _ => T = "str"
  | .ref a => (match G a with
    | some (.lst _) => T = "list"
    | some (.dK _) => T = "dict"
    | some (.dT _) => T = "dict"
    | _ => False)
  | _ => False
theorem tyR_v {K : KT} {G : DH} {H : Hp} {v : V} {d : D} {T : String} (hr : HRel K G H) (r : Dv K H v d) (e : tyR G T d) : tyV K.1 T v H := by
  unfold tyR at e
  split at e
  · cases r; exact e
  · cases r
    split at e
    · rename_i l ea
      obtain ⟨xs, h1, _⟩ := hr _ _ ea
      exact .inl ⟨e, xs, SqL.of h1⟩
    · rename_i l ea
      obtain ⟨xs, h1, _⟩ := hr _ _ ea
      exact .inr (.inr (.inl ⟨e, .inl ⟨xs, h1⟩⟩))
    · rename_i l ea
      obtain ⟨xs, h1, _⟩ := hr _ _ ea
      exact .inr (.inr (.inl ⟨e, .inr ⟨xs, h1⟩⟩))
    · exact False.elim e
  · exact False.elim e
def dBM (T : String) (r2 : DM) (da : DE) (dl : DA) : DE := fun δ G R EX => da δ G (fun x G1 => tyR G1 T x ∧ dl δ G1 (fun xs G2 => r2 x xs G2 R) EX) EX
section
variable {X : Cx} {E : EK} {o e : Expr} {es : List Expr} {da : DE} {dl : DA} {name : Str} {apos cpos : Pos} {T id : String} {r2 : DM}
theorem pd_bm (pa : PlainAttrs T) (slot : Slot T name id) (hty : typeOf (.builtin id) = pure (.type "method_descriptor")) (hm : MD X id r2) (ho : PD X E o da) (ha : PDA X E (e :: es) dl)
    (hbase : attributeBase o name X.env (eval o X.env) = eval o X.env := by rfl)
    (hfew : ((backTo cpos (starEach (e :: es) X.env)).all (fun x => !x.1) && (backToKw cpos (keywordEach [] X.env)).all (fun x => x.1.isSome)
      && decide ((e :: es).length + ([] : List Keyword).length + (if ([] : List Keyword).isEmpty then 0 else 1) < 30)) = true := by rfl)
    (hline : (apos.endLine == cpos.line) = true := by rfl) (hs : starEach (e :: es) X.env = (false, eval e X.env) :: starEach es X.env := by rfl) (hplain : (backTo cpos (starEach es X.env)).any (·.1) = false := by rfl) :
    PD X E (.Call (.Attribute o name apos) (e :: es) [] cpos) (dBM T r2 da dl) := by
  obtain ⟨r, hr, l⟩ := hm
  exact ⟨imE (pe_bm pa slot hty hr ho.pe ha.pa hbase hfew hline hs hplain) fun σ H Q ⟨δ, G, R, EX, sr, hr, h, cr, cx⟩ => ⟨δ, G, _, EX, sr, hr, h, fun x H1 d G1 u1 h1 r1 q1 => ⟨tyR_v h1 r1 q1.1, δ, G1, _, EX, sr.up u1, h1, q1.2, fun xs H2 ds G2 u2 h2 r2 q2 =>
    l _ x xs H2 d ds G2 R Q h2 (r1.up u2) r2 q2 (cr.up (u1.trans u2)), cx.up u1⟩, cx⟩⟩
theorem pd_bm0 (pa : PlainAttrs T) (slot : Slot T name id) (hty : typeOf (.builtin id) = pure (.type "method_descriptor")) (hm : MD X id r2) (ho : PD X E o da)
    (hbase : attributeBase o name X.env (eval o X.env) = eval o X.env := by rfl) (hline : (apos.endLine == cpos.line) = true := by rfl) : PD X E (.Call (.Attribute o name apos) [] [] cpos) (dBM T r2 da dNil) := by
  obtain ⟨r, hr, l⟩ := hm
  exact ⟨imE (pe_bm0 pa slot hty hr ho.pe hbase hline) fun σ H Q ⟨δ, G, R, EX, sr, hr, h, cr, cx⟩ => ⟨δ, G, _, EX, sr, hr, h, fun x H1 d G1 u1 h1 r1 q1 => ⟨tyR_v h1 r1 q1.1, l _ x [] H1 d [] G1 R Q h1 r1 .nil q1.2 (cr.up u1)⟩, cx⟩⟩
def mAppend : DM := fun x xs G R => match x, xs with
  | .ref a, [y] => ∃ l, G a = some (.lst l) ∧ l.length < sizeLine ∧ R .non (updD G a (.lst (l ++ [y])))
  | _, _ => False
theorem md_append : MD X "list.append" mAppend := ⟨_, mt_append, fun T x xs H d ds G R Q hr r rs q cr => by
  unfold mAppend at q
  split at q
  · cases r
    cases rs with
    | cons r1 r2 =>
      cases r2
      obtain ⟨l, e, hl, q⟩ := q
      obtain ⟨ys, h1, h2⟩ := hr _ _ e
      have u : ∀ o, Up H (upd H _ o) := fun o => Up.put h1 trivial
      exact ⟨_, ys, _, rfl, rfl, h1, by rw [h2.length]; exact hl, cr _ _ _ _ (u _) (hr.put (c := .lst _) h1 trivial ⟨_, upd_same, (h2.up (u _)).append (.cons (r1.up (u _)) .nil)⟩) .non q⟩
  · exact False.elim q⟩
def mExtend : DM := fun x xs G R => match x, xs with
  | .ref a, [.ref b] => ∃ l m, G a = some (.lst l) ∧ G b = some (.lst m) ∧ l.length + m.length ≤ sizeLine ∧ R .non (updD G a (.lst (l ++ m)))
  | _, _ => False
theorem md_extend : MD X "list.extend" mExtend := ⟨_, mt_extend, fun T x xs H d ds G R Q hr r rs q cr => by
  unfold mExtend at q
  split at q
  · cases r
    cases rs with
    | cons r1 r2 =>
      cases r2
      cases r1
      obtain ⟨l, m, e, e', hl, q⟩ := q
      obtain ⟨ys, h1, h2⟩ := hr _ _ e
      obtain ⟨zs, g1, g2⟩ := hr _ _ e'
      have u : ∀ o, Up H (upd H _ o) := fun o => Up.put h1 trivial
      exact ⟨_, _, ys, zs, rfl, rfl, h1, g1, by rw [h2.length, g2.length]; exact hl, cr _ _ _ _ (u _) (hr.put (c := .lst _) h1 trivial ⟨_, upd_same, (h2.append g2).up (u _)⟩) .non q⟩
  · exact False.elim q⟩
def mPopAt : DM := fun x xs G R => match x, xs with
  | .ref a, [.int i] => ∃ l k y, G a = some (.lst l) ∧ -(2 ^ 63) ≤ i ∧ i < 2 ^ 63 ∧ seqIndex? i l.length = some k ∧ l[k]? = some y ∧ R y (updD G a (.lst (l.eraseIdx k)))
  | _, _ => False
theorem md_popAt : MD X "list.pop" mPopAt := ⟨_, mt_popAt, fun T x xs H d ds G R Q hr r rs q cr => by
  unfold mPopAt at q
  split at q
  · cases r
    cases rs with
    | cons r1 r2 =>
      cases r2
      cases r1
      obtain ⟨l, k, y, e, a1, a2, a3, a4, q⟩ := q
      obtain ⟨ys, h1, h2⟩ := hr _ _ e
      obtain ⟨z, b1, b2⟩ := h2.get a4
      have u : ∀ o, Up H (upd H _ o) := fun o => Up.put h1 trivial
      exact ⟨_, ys, _, k, z, rfl, rfl, h1, a1, a2, by rw [h2.length]; exact a3, b1, cr _ _ _ _ (u _) (hr.put (c := .lst _) h1 trivial ⟨_, upd_same, (h2.eraseIdx k).up (u _)⟩) (b2.up (u _)) q⟩
  · exact False.elim q⟩
def mPop : DM := fun x xs G R => match x, xs with
  | .ref a, [] => ∃ l y, G a = some (.lst l) ∧ l[l.length - 1]? = some y ∧ R y (updD G a (.lst l.dropLast))
  | _, _ => False
theorem md_pop : MD X "list.pop" mPop := ⟨_, mt_pop, fun T x xs H d ds G R Q hr r rs q cr => by
  unfold mPop at q
  split at q
  · cases r
    cases rs
    obtain ⟨l, y, e, a4, q⟩ := q
    obtain ⟨ys, h1, h2⟩ := hr _ _ e
    obtain ⟨z, b1, b2⟩ := h2.get a4
    have u : ∀ o, Up H (upd H _ o) := fun o => Up.put h1 trivial
    exact ⟨_, ys, z, rfl, rfl, h1, by rw [h2.length]; exact b1, cr _ _ _ _ (u _) (hr.put (c := .lst _) h1 trivial ⟨_, upd_same, h2.dropLast.up (u _)⟩) (b2.up (u _)) q⟩
  · exact False.elim q⟩
def mClear : DM := fun x xs G R => match x, xs with
  | .ref a, [] => (∃ l, G a = some (.lst l)) ∧ R .non (updD G a (.lst []))
  | _, _ => False
theorem md_clear : MD X "list.clear" mClear := ⟨_, mt_clear, fun T x xs H d ds G R Q hr r rs q cr => by
  unfold mClear at q
  split at q
  · cases r
    cases rs
    obtain ⟨⟨l, e⟩, q⟩ := q
    obtain ⟨ys, h1, h2⟩ := hr _ _ e
    exact ⟨_, ys, rfl, rfl, h1, cr _ _ _ _ (Up.put h1 trivial) (hr.put (c := .lst []) h1 trivial ⟨_, upd_same, .nil⟩) .non q⟩
  · exact False.elim q⟩
end
/-! stores by subscript -/
def setF (G : DH) (o i v : D) (R : DH → Prop) : Prop := match o with
  | .ref a => (match G a with
    | some (.lst l) => (match i with
      | .int k => ∃ j, ixN l.length k = some j ∧ R (updD G a (.lst (l.set j v)))
      | _ => False)
    | _ => False)
  | _ => False
def dSetL : DSet := fun o i v G R => setF G o i v R
section
variable {X : Cx}
theorem set_listD : PSet X rSetL ∧ ∀ T, LiftSet (X.K, T) rSetL dSetL := ⟨set_list, fun T o i v H d e f G R Q hr ro ri rv q k => by
  unfold dSetL setF at q
  split at q
  · cases ro
    split at q
    · rename_i a l ea
      split at q
      · cases ri
        obtain ⟨j, hj, q⟩ := q
        obtain ⟨xs, h1, h2⟩ := hr _ _ ea
        have u : ∀ o, Up H (upd H _ o) := fun o => Up.put h1 trivial
        exact ⟨_, xs, _, j, rfl, rfl, h1, by rw [h2.length]; exact hj, k _ _ (u _) (hr.put (c := .lst _) h1 trivial ⟨_, upd_same, (DvL.set rv j h2).up (u _)⟩) q⟩
      · exact False.elim q
    · exact False.elim q
  · exact False.elim q⟩
end
/-! slices -/
abbrev DO := DS → DH → (Option Int → DH → Prop) → DX → Prop
def CloO (K : KT) (H : Hp) (Q : Option Int → Hp → Prop) (R : Option Int → DH → Prop) : Prop := ∀ b H' G', Up H H' → HRel K G' H' → R b G' → Q b H'
def upO (K : KT) (E : XK) (de : DO) : TO := fun σ H Q => ∃ δ G R EX, SRel K H σ δ ∧ HRel K G H ∧ de δ G R EX ∧ CloO K H Q R ∧ CloX K H E EX
structure PDO (X : Cx) (E : EK) (e : Option Expr) (de : DO) : Prop where
  po : PO X e (upO (kt X E) E.1 de)
def oNo : DO := fun _ G R _ => R none G
def oSome (da : DE) : DO := fun δ G R EX => da δ G (fun x G1 => match x with
  | .int i => R (some i) G1
  | _ => False) EX
theorem imO {X : Cx} {e : Option Expr} {t u : TO} (h : PO X e t) (k : ∀ σ H Q, u σ H Q → t σ H Q) : PO X e u := ⟨fun pins s σ H Q I q => h.run pins s σ H Q I (k σ H Q q)⟩
def SlD (X : Cx) (r2 : D → Option Int → Option Int → DH → DK → Prop) : Prop := ∃ r, SlR X r ∧ ∀ (T : List (Addr × Str)) x lo hi H d G R Q, HRel (X.K, T) G H → Dv (X.K, T) H x d → r2 d lo hi G R → CloR (X.K, T) H Q R → r x lo hi H Q
def dSl (r2 : D → Option Int → Option Int → DH → DK → Prop) (da : DE) (dl dh : DO) : DE := fun δ G R EX => da δ G (fun x G1 => dl δ G1 (fun l G2 => dh δ G2 (fun h G3 => r2 x l h G3 R) EX) EX) EX
section
variable {X : Cx} {E : EK} {e : Expr} {lo hi : Option Expr} {de : DE} {dl dh : DO} {pos p2 : Pos} {r2 : D → Option Int → Option Int → DH → DK → Prop}
theorem pdo_none : PDO X E none oNo := ⟨imO po_none fun σ H Q ⟨δ, G, R, EX, sr, hr, h, cr, cx⟩ => cr _ _ _ (Up.refl H) hr h⟩
theorem pdo_some (h : PD X E e de) : PDO X E (some e) (oSome de) := ⟨imO (po_some h.pe) fun σ H Q ⟨δ, G, R, EX, sr, hr, h, cr, cx⟩ => ⟨δ, G, _, EX, sr, hr, h, fun x H1 d G1 u1 h1 r1 q1 => by
  cases r1 with
  | int i => exact ⟨i, rfl, cr _ _ _ u1 h1 q1⟩
  | _ => exact False.elim q1, cx⟩⟩
theorem pd_slice (hr : SlD X r2) (he : PD X E e de) (hl : PDO X E lo dl) (hu : PDO X E hi dh) : PD X E (.Subscript e (.Slice lo hi none p2) pos) (dSl r2 de dl dh) := by
  obtain ⟨r, h1, h2⟩ := hr
  exact ⟨imE (pe_slice h1 he.pe hl.po hu.po) fun σ H Q ⟨δ, G, R, EX, sr, hr, h, cr, cx⟩ => ⟨δ, G, _, EX, sr, hr, h, fun x H1 d G1 u1 h1 r1 q1 => ⟨δ, G1, _, EX, sr.up u1, h1, q1, fun l H2 G2 u2 h2' q2 => ⟨δ, G2, _, EX, sr.up (u1.trans u2), h2', q2, fun u H3 G3 u3 h3 q3 =>
    h2 _ x l u H3 d G3 R Q h3 (r1.up (u2.trans u3)) q3 (cr.up (u1.trans (u2.trans u3))), cx.up (u1.trans u2)⟩, cx.up u1⟩, cx⟩⟩
def cutD (xs : List D) (lo hi : Option Int) : List D := (xs.drop (HT.sIx xs.length 0 lo)).take (HT.sIx xs.length xs.length hi - HT.sIx xs.length 0 lo)
theorem DvL.cut {K : KT} {H : Hp} {v : List V} {d : List D} (h : DvL K H v d) (lo hi : Option Int) : DvL K H (cutV v lo hi) (cutD d lo hi) := by
  unfold cutV cutD
  rw [h.length]
  exact (h.drop _).take _
/-- a tuple's, a list's slice -/
def sSl : D → Option Int → Option Int → DH → DK → Prop := fun x lo hi G R => match x with
  | .ref a => ∃ l, G a = some (.lst l) ∧ ∀ p, G p = none → R (.ref p) (updD G p (.lst (cutD l lo hi)))
  | x => (match x.tl with
    | some l => (HT.sIx l.length 0 lo = 0 ∧ HT.sIx l.length l.length hi = l.length → R x G) ∧ (¬ (HT.sIx l.length 0 lo = 0 ∧ HT.sIx l.length l.length hi = l.length) → R (.tup (cutD l lo hi)) G)
    | none => False)
theorem sld : SlD X sSl := ⟨_, sl_list.or sl_tupA, fun T x lo hi H d G R Q hr r q cr => by
  unfold sSl at q
  split at q
  · cases r
    obtain ⟨l, e, q⟩ := q
    obtain ⟨xs, h1, h2⟩ := hr _ _ e
    exact .inl ⟨_, xs, rfl, SqL.of h1, fun p hp => cr _ _ _ _ (Up.new hp) (hr.new (c := .lst _) hp ⟨_, upd_same, (h2.cut lo hi).up (Up.new hp)⟩) (.ref p) (q p (hr.none hp))⟩
  · split at q
    · rename_i l el
      obtain ⟨a, xs, h1, h2, h3⟩ := r.sqT el
      refine .inr ⟨a, xs, h1, h2, fun hw => ?_, fun hw p hp => ?_⟩
      · rw [h3.length] at hw
        subst h1
        exact cr _ _ _ _ (Up.refl H) hr r (q.1 hw)
      · rw [h3.length] at hw
        exact cr _ _ _ _ (Up.new hp) (hr.new0 hp) (.tup (SqT.of upd_same) ((h3.cut lo hi).up (Up.new hp))) (q.2 hw)
    · exact False.elim q⟩
end
end Cc
/-! ### objects, dicts, defs -/
namespace Cc
open PySem PySem.Spec PyProof.Rows L2
/-! what a def promises -/
def startD (N : List Str) (ds : List D) : DS := ds.map some ++ List.replicate (N.length - ds.length) none
theorem srel_start {K : KT} {H : Hp} {N : List Str} : ∀ {vs : List V} {ds : List D}, DvL K H vs ds → SRel K H (L2.start N vs) (startD N ds) := fun {vs ds} r => by
  refine ⟨by unfold L2.start startD; simp [r.length], fun i d e => ?_⟩
  unfold startD at e
  unfold L2.start
  by_cases hi : i < ds.length
  · rw [List.getElem?_append_left (by rw [List.length_map]; exact hi), List.getElem?_map] at e
    rw [List.getElem?_append_left (by rw [List.length_map, r.length]; exact hi), List.getElem?_map]
    cases q : ds[i]? with
    | none => rw [q] at e; cases e
    | some d' =>
      rw [q] at e
      cases e
      obtain ⟨v, h1, h2⟩ := r.get q
      exact ⟨v, by rw [h1]; rfl, h2⟩
  · rw [List.getElem?_append_right (by rw [List.length_map]; omega), List.getElem?_replicate] at e
    split at e <;> cases e
abbrev endsD (R : DK) (EX : DX) : DEnds := { nx := fun _ G => R .non G, rt := R, ex := EX }
/-- the body of a def keeps a reading, wherever it is entered -/
def BodyD (P : Program) (w : World) (K : PySem.W.Frag) (T : List (Addr × Str)) (cv : Value → Prop) (mg : Str → Option Value) (base : Heap) (N : List Str) (qual : Str) (scope : Scope) (body : List Stmt) (k : Nat) (sb : DSt) : Prop :=
  ∀ (f : Addr) (cdv : Value) (A : Around) (outer : List Env) (s : Shared) (H : Hp) (E : XK), cv cdv → Room k (A.deeper (envOfC qual scope s.heap.objs.size f cdv)) → PDSs (cxOf (L2.CX P w) P w K mg base N qual scope f cdv A outer s H E) (E, T) body sb
section
variable {P : Program} {w : World} {K : PySem.W.Frag} {T : List (Addr × Str)} {cv : Value → Prop} {mg : Str → Option Value} {base : Heap} {N ps : List Str} {x qual : Str} {params : Arguments} {body : List Stmt} {scope : Scope} {dvs : List V} {kws : List (Str × V)} {f : Addr} {fd : FuncData} {k : Nat} {sb : DSt} {sd : SpD}
theorem okD (F : FunD K x qual params body scope dvs kws f fd) (S : FnScope N ps scope) (hcv : cv fd.code) (len : ∀ ds G R EX, sd ds G R EX → ds.length = ps.length) (B : BodyD P w K T cv mg base N qual scope body k sb)
    (hp : ∀ ds G R EX, sd ds G R EX → sb (endsD R EX) (startD N ds) G) : FnOk P w K mg base (L2.CX P w) (k + 1) f fd ps (upF (K, T) sd) := by
  obtain ⟨oc, od, dV, kV, doc, pm, an, cdv, ct, osl, rfl, lk, hcd, _, _⟩ := F.ex
  refine fn_of lk hcd S (fun vs H Q E ⟨ds, G, R, EX, dv, hr, h, cr, cx⟩ => dv.length.trans (len ds G R EX h)) fun A outer s H vs Q E hr ⟨ds, G, R, EX, dv, hG, h, cr, cx⟩ => ?_
  refine ⟨upS (K, T) E sb, (B f cdv A outer s H E hcv hr).ps, startD N ds, G, endsD R EX, srel_start dv, hG, hp ds G R EX h, fun σ' H' δ' G' u s2 h2 q => cr _ _ _ _ u h2 .non q, cr, fun _ _ _ _ _ _ _ q => q.elim, fun _ _ _ _ _ _ _ q => q.elim, cx⟩
theorem tkD {cdv : Value} {A : Around} {outer : List Env} {s : Shared} {H : Hp} {E : XK} : Takes (cxOf (L2.CX P w) P w K mg base N qual scope f cdv A outer s H E) (fun cls d _ H => E cls d H) := takes_of rfl rfl rfl rfl
theorem psD {cdv : Value} {A : Around} {outer : List Env} {s : Shared} {H : Hp} {E : XK} : Passes (L2.CX P w) (cxOf (L2.CX P w) P w K mg base N qual scope f cdv A outer s H E) E := passes_call tkD fun _ _ _ _ h => h
theorem poD {cdv : Value} {A : Around} {outer : List Env} {s : Shared} {H : Hp} {E : XK} : PassesOwn (model P w) (cxOf (L2.CX P w) P w K mg base N qual scope f cdv A outer s H E).A (cxOf (L2.CX P w) P w K mg base N qual scope f cdv A outer s H E).env (cxOf (L2.CX P w) P w K mg base N qual scope f cdv A outer s H E).xe := passes_of rfl
/-- a weaker promise -/
theorem impD {K : KT} {Fr : PySem.W.Frag} {CX : CXT} {sd sd' : SpD} (F : FnOk P w Fr mg base CX k f fd ps (upF K sd)) (h : ∀ ds G R EX, sd' ds G R EX → sd ds G R EX) : FnOk P w Fr mg base CX k f fd ps (upF K sd') :=
  F.imp fun vs H Q E ⟨ds, G, R, EX, dv, hr, q, cr, cx⟩ => ⟨ds, G, R, EX, dv, hr, h _ _ _ _ q, cr, cx⟩
end
/-! fields -/
def fld (fs : List (Str × D)) (f : Str) : Option D := fs.lookup f
def putFD (f : Str) (v : D) : List (Str × D) → List (Str × D)
  | [] => [(f, v)]
  | p :: r => if p.1 = f then (p.1, v) :: r else p :: putFD f v r
theorem KVr.fld {K : KT} {H : Hp} {xs : List (Str × V)} {ys : List (Str × D)} {f : Str} : KVr K H xs ys → ∀ {d : D}, ys.lookup f = some d → ∃ v, xs.lookup f = some v ∧ Dv K H v d := fun r => by
  induction r with
  | nil => intro d e; cases e
  | @cons p q l m h t ih =>
    intro d e
    obtain ⟨p1, p2⟩ := p
    obtain ⟨q1, q2⟩ := q
    obtain ⟨h1, h2⟩ := h
    dsimp only at h1 h2
    subst h1
    rw [List.lookup_cons] at e ⊢
    cases hb : f == p1 with
    | true => rw [hb] at e; cases e; exact ⟨p2, rfl, h2⟩
    | false => rw [hb] at e; exact ih e
theorem KVr.fldN {K : KT} {H : Hp} {xs : List (Str × V)} {ys : List (Str × D)} {f : Str} : KVr K H xs ys → ys.lookup f = none → xs.lookup f = none := fun r => by
  induction r with
  | nil => intro e; rfl
  | @cons p q l m h t ih =>
    intro e
    obtain ⟨p1, p2⟩ := p
    obtain ⟨q1, q2⟩ := q
    obtain ⟨h1, h2⟩ := h
    dsimp only at h1 h2
    subst h1
    rw [List.lookup_cons] at e ⊢
    cases hb : f == p1 with
    | true => rw [hb] at e; cases e
    | false => rw [hb] at e; exact ih e
theorem KVr.putF {K : KT} {H : Hp} {xs : List (Str × V)} {ys : List (Str × D)} {f : Str} {v : V} {d : D} (hd : Dv K H v d) : KVr K H xs ys → KVr K H (L2.putF f v xs) (putFD f d ys) := fun r => by
  induction r with
  | nil => exact .cons ⟨rfl, hd⟩ .nil
  | @cons p q l m h t ih =>
    obtain ⟨p1, p2⟩ := p
    obtain ⟨q1, q2⟩ := q
    obtain ⟨h1, h2⟩ := h
    dsimp only at h1 h2
    subst h1
    unfold L2.putF putFD
    by_cases hb : p1 = f
    · rw [if_pos hb, if_pos hb]
      exact .cons ⟨by first | rfl | exact hb.symm | exact hb, hd⟩ t
    · rw [if_neg hb, if_neg hb]
      exact .cons ⟨rfl, h2⟩ ih
theorem KVr.len {K : KT} {H : Hp} {κ : Type} {xs : List (κ × V)} {ys : List (κ × D)} (r : KVr K H xs ys) : xs.length = ys.length := Paired.length r
/-- o.f, o of the class at Cl -/
def dFld (Cl : Addr) (f : Str) (da : DE) : DE := fun δ G R EX => da δ G (fun x G1 => match x with
  | .ref a => (match G1 a with
    | some (.ins c fs) => c = Cl ∧ (match fs.lookup f with
      | some d => R d G1
      | none => False)
    | _ => False)
  | _ => False) EX
section
variable {X : Cx} {E : EK} {a b c e o value : Expr} {es rest : List Expr} {pos pos' apos : Pos} {da db dc de : DE} {dA dB : DT} {dl : DA} {Cl : Addr} {f m x : Str}
theorem pd_fld (cl : Cls X.K Cl) (na : NoAttr X.K Cl f) (he : PD X E e da) (hb : attributeBase e f X.env (eval e X.env) = eval e X.env := by rfl) : PD X E (.Attribute e f pos) (dFld Cl f da) :=
  ⟨imE (pe_fld he.pe hb) fun σ H Q ⟨δ, G, R, EX, sr, hr, h, cr, cx⟩ => ⟨δ, G, _, EX, sr, hr, h, fun x H1 d G1 u1 h1 r1 q1 => by
    dsimp only at q1
    split at q1
    · cases r1
      split at q1
      · rename_i a c fs ea
        obtain ⟨hc, q1⟩ := q1
        subst hc
        split at q1
        · rename_i d ed
          obtain ⟨dx, ys, e1, e2⟩ := h1 _ _ ea
          obtain ⟨v, e3, e4⟩ := e2.fld ed
          exact ⟨_, _, dx, ys, v, rfl, e1, cl, na, e3, cr _ _ _ _ u1 h1 e4 q1⟩
        · exact False.elim q1
      · exact False.elim q1
    · exact False.elim q1, cx⟩⟩
/-- o.f = e -/
def sFldD (Cl : Addr) (f : Str) (da dv : DE) : DSt := fun D δ G => dv δ G (fun y G1 => da δ G1 (fun x G2 => match x with
  | .ref a => (match G2 a with
    | some (.ins c fs) => c = Cl ∧ fs.length < 1000 ∧ D.nx δ (updD G2 a (.ins c (putFD f y fs)))
    | _ => False)
  | _ => False) D.ex) D.ex
theorem pds_fld (cl : Cls X.K Cl) (na : NoAttr X.K Cl f) (ha : PD X E o da) (hv : PD X E value dc) (hs : swapsWith value (some (.Attribute o f pos')) pos.line X.env = pure false := by rfl) : PDS X E (.Assign [.Attribute o f pos'] value pos) (sFldD Cl f da dc) :=
  ⟨imS (ps_fld ha.pe hv.pe hs) fun Dn σ H ⟨δ, G, DD, sr, hr, h, cn, ct, cb, cc, cx⟩ => ⟨δ, G, _, DD.ex, sr, hr, h, fun y H1 d G1 u1 h1 r1 q1 => ⟨δ, G1, _, DD.ex, sr.up u1, h1, q1, fun x H2 d2 G2 u2 h2 r2 q2 => by
    dsimp only at q2
    split at q2
    · cases r2
      split at q2
      · rename_i a c fs ea
        obtain ⟨hc, hl, q2⟩ := q2
        subst hc
        obtain ⟨dx, ys, e1, e2⟩ := h2 _ _ ea
        have u : ∀ o, Up H2 (upd H2 _ o) := fun o => Up.put e1 trivial
        have u12 := u1.trans u2
        refine ⟨_, _, dx, ys, rfl, e1, cl, na, by rw [e2.len]; exact hl, ?_⟩
        exact cn _ _ _ _ (u12.trans (u _)) (sr.up (u12.trans (u _))) (h2.put (c := .ins _ (putFD f d fs)) e1 trivial ⟨dx, _, upd_same, KVr.putF (r1.up (u2.trans (u _))) (e2.up (u _))⟩) q2
      · exact False.elim q2
    · exact False.elim q2, cx.up u1⟩, cx⟩⟩
/-- o.m(..) -/
def dMeth (Cl : Addr) (m : Str) (sd : SpD) (da : DE) (dl : DA) : DE := fun δ G R EX => da δ G (fun x G1 => match x with
  | .ref a => (match G1 a with
    | some (.ins c fs) => c = Cl ∧ fs.lookup m = none ∧ dl δ G1 (fun xs G2 => sd (.ref a :: xs) G2 R EX) EX
    | _ => False)
  | _ => False) EX
theorem up_meth {sd : SpD} {σ : L2.St} {H : Hp} {Q : VK} : up (kt X E) E.1 (dMeth Cl m sd da dl) σ H Q → tMeth Cl m (upF (kt X E) sd) [] E.1 (up (kt X E) E.1 da) (upA (kt X E) E.1 dl) σ H Q := fun ⟨δ, G, R, EX, sr, hr, h, cr, cx⟩ =>
  ⟨δ, G, _, EX, sr, hr, h, fun x H1 d G1 u1 h1 r1 q1 => by
    dsimp only at q1
    split at q1
    · cases r1
      split at q1
      · rename_i a c fs ea
        obtain ⟨hc, hl, q1⟩ := q1
        subst hc
        obtain ⟨dx, ys, e1, e2⟩ := h1 _ _ ea
        refine ⟨_, dx, ys, rfl, e1, e2.fldN hl, δ, G1, _, EX, sr.up u1, h1, q1, fun vs H2 ds G2 u2 h2 r2 q2 => ?_, cx.up u1⟩
        show upF (kt X E) sd (_ :: (vs ++ [])) H2 Q E.1
        rw [List.append_nil]
        exact ⟨_, G2, R, EX, .cons (.ref _) r2, h2, q2, cr.up (u1.trans u2), cx.up (u1.trans u2)⟩
      · exact False.elim q1
    · exact False.elim q1, cx⟩
variable {CX : CXT} {k : Nat} {g : Addr} {fd : FuncData} {ps : List Str} {sd : SpD} {p : Pos}
theorem pd_meth {pl : Sem Bool} (he : PD X E o da) (cl : Cls X.K Cl) (hm : Meth X.K Cl m g) (F : FnOk X.prog X.w X.K X.mg X.base CX k g fd ps (upF (kt X E) sd)) (hr : Room k X.A) (hb : Binds X.K fd ps []) (hx : Passes CX X E.1) (ha : PDA X E (e :: es) dl)
    (hst : starEach (e :: es) X.env = (false, eval e X.env) :: starEach es X.env := by rfl) (hpl : (backTo pos (starEach es X.env)).any (·.1) = false := by rfl)
    (ht : eval (.Call (.Attribute o m apos) (e :: es) [] pos) X.env = (do
      let ov ← eval o X.env
      standAt apos.atName
      let (f, first) ← holding [ov] (getMethod ov m pl)
      callWith pos f first (backTo pos (starEach (e :: es) X.env)) (backToKw pos (keywordEach [] X.env))) := by rfl) :
    PD X E (.Call (.Attribute o m apos) (e :: es) [] pos) (dMeth Cl m sd da dl) := ⟨imE (pe_meth he.pe cl hm F hr hb .nil hx ha.pa hst hpl ht) fun _ _ _ => up_meth⟩
theorem pd_meth0 {pl : Sem Bool} (he : PD X E o da) (cl : Cls X.K Cl) (hm : Meth X.K Cl m g) (F : FnOk X.prog X.w X.K X.mg X.base CX k g fd ps (upF (kt X E) sd)) (hr : Room k X.A) (hb : Binds X.K fd ps []) (hx : Passes CX X E.1)
    (ht : eval (.Call (.Attribute o m apos) [] [] pos) X.env = (do
      let ov ← eval o X.env
      standAt apos.atName
      let (f, first) ← holding [ov] (getMethod ov m pl)
      callWith pos f first (backTo pos (starEach [] X.env)) (backToKw pos (keywordEach [] X.env))) := by rfl) :
    PD X E (.Call (.Attribute o m apos) [] [] pos) (dMeth Cl m sd da dNil) := ⟨imE (pe_meth0 he.pe cl hm F hr hb .nil hx ht) fun σ H Q h => up_meth (dl := dNil) (by
      obtain ⟨δ, G, R, EX, sr, hr, h, cr, cx⟩ := h
      exact ⟨δ, G, R, EX, sr, hr, h, cr, cx⟩) |> fun h => by
      obtain ⟨δ, G, R, EX, sr, hr, h, cr, cx⟩ := h
      refine ⟨δ, G, R, EX, sr, hr, h, fun v H' d G' u1 h1 r1 q1 => ?_, cx⟩
      obtain ⟨a, dx, fs, e1, e2, e3, δ2, G2, R2, EX2, s2, h2, q2, cr2, cx2⟩ := cr v H' d G' u1 h1 r1 q1
      exact ⟨a, dx, fs, e1, e2, e3, cr2 _ _ _ _ (Up.refl _) h2 .nil q2⟩⟩
/-- Cl(..) -/
def dMake (Cl : Addr) (sd : SpD) (dl : DA) : DE := fun δ G R EX => dl δ G (fun xs G1 => ∀ x, G1 x = none → sd (.ref x :: xs) (updD G1 x (.ins Cl [])) (fun d G2 => match d with
  | .non => R (.ref x) G2
  | _ => False) EX) EX
theorem up_make {sd : SpD} {σ : L2.St} {H : Hp} {Q : VK} : up (kt X E) E.1 (dMake Cl sd dl) σ H Q → tMake Cl (upF (kt X E) sd) [] E.1 (upA (kt X E) E.1 dl) σ H Q := fun ⟨δ, G, R, EX, sr, hr, h, cr, cx⟩ =>
  ⟨δ, G, _, EX, sr, hr, h, fun vs H1 ds G1 u1 h1 r1 q1 => fun x dx nx ndx nex => by
    have n2 : upd H1 dx (.own x) x = none := by rw [upd_ne (fun e => nex e.symm)]; exact nx
    have ua : Up H1 (upd H1 dx (.own x)) := Up.new ndx
    have ub : Up (upd H1 dx (.own x)) (upd (upd H1 dx (.own x)) x (.ins Cl dx [])) := Up.new n2
    have hG := (h1.new0 (o := .own x) ndx).new (c := .ins Cl []) (o := .ins Cl dx []) n2 ⟨dx, [], upd_same, .nil⟩
    show upF (kt X E) sd (.ref x :: (vs ++ [])) _ _ E.1
    rw [List.append_nil]
    refine ⟨_, _, _, EX, .cons (.ref x) (r1.up (ua.trans ub)), hG, q1 x (h1.none nx), fun v H2 d G2 u2 h2 r2 q2 => ?_, cx.up (u1.trans (ua.trans ub))⟩
    dsimp only at q2
    split at q2
    · cases r2
      exact ⟨rfl, cr _ _ _ _ (u1.trans (ua.trans (ub.trans u2))) h2 (.ref x) q2⟩
    · exact False.elim q2, cx⟩
theorem pd_make (M : Mk X.K Cl g) (F : FnOk X.prog X.w X.K X.mg X.base CX k g fd ps (upF (kt X E) sd)) (hr : Room (k + 1) X.A) (hm : X.mg x = some (.ref Cl)) (hb : Binds X.K fd ps []) (hx : Passes CX X E.1)
    (ha : PDA X E (e :: es) dl) (hg : Gl X x := by rfl) (hdb : (x == ("__debug__" : Str)) = false := by decide) (he : starEach (e :: es) X.env = (false, eval e X.env) :: starEach es X.env := by rfl) (hpl : (backTo pos (starEach es X.env)).any (·.1) = false := by rfl) :
    PD X E (.Call (.Name x p) (e :: es) [] pos) (dMake Cl sd dl) := ⟨imE (pe_make M F hr hg hm hb .nil hx ha.pa hdb he hpl) fun _ _ _ => up_make⟩
theorem pd_make0 (M : Mk X.K Cl g) (F : FnOk X.prog X.w X.K X.mg X.base CX k g fd ps (upF (kt X E) sd)) (hr : Room (k + 1) X.A) (hm : X.mg x = some (.ref Cl)) (hb : Binds X.K fd ps []) (hx : Passes CX X E.1)
    (hg : Gl X x := by rfl) (hdb : (x == ("__debug__" : Str)) = false := by decide) : PD X E (.Call (.Name x p) [] [] pos) (dMake Cl sd dNil) := ⟨imE (pe_make0 M F hr hg hm hb .nil hx hdb) fun σ H Q h => by
      obtain ⟨δ, G, R, EX, sr, hr, h, cr, cx⟩ := up_make h
      exact cr [] H [] _ (Up.refl H) hr .nil h⟩
end
/-! errors -/
/-- raise x('..'), x an own class over ValueError without its own making -/
structure ErrC (K : PySem.W.Frag) (mg : Str → Option Value) (x : Str) (C : Addr) : Prop where
  q : PySem.W.excIn K C [.type "ValueError", .type "Exception", .type "BaseException", .type "object"] "ValueError.__new__" = true
  g : mg x = some (.ref C)
  k : PySem.W.keepIn K (.ref C) = true
  b : PySem.W.subIn K (.ref C) (.type "BaseException") = some true
  t : PySem.W.typeIn K (.ref C) = some (.type "type")
def sRaise (C : Addr) : DSt := fun D _ G => D.ex (.ref C) none G
section
variable {X : Cx} {E : EK} {x m : Str} {C : Addr} {pos pos2 p p2 : Pos} {j : Nat}
theorem pds_raise (T : ErrC X.K X.mg x C) (tk : Takes X (fun cls d _ H => E.1 cls d H)) (hc : X.calm = true := by rfl) (hg : Gl X x := by rfl) (hdb : (x == ("__debug__" : Str)) = false := by decide) : PDS X E (.Raise (some (.Call (.Name x p) [.Constant (.str m) j p2] [] pos)) none pos2) (sRaise C) :=
  ⟨imS (ps_raise hc tk (pmk_own PySem.F.excBase_ValueError T.q T.g T.k (raises_own T.b T.t) hg hdb)) fun Dn σ H ⟨δ, G, DD, sr, hr, h, cn, ct, cb, cc, cx⟩ => cx _ _ _ _ (Up.refl H) hr h⟩
end
end Cc
/-! ### what the module's names stand for; blocks of comprehensions -/
namespace Cc
open PySem PySem.Spec PyProof.Rows L2
/-- a def of the module, by its name: its promise at a level -/
structure Fn (P : Program) (w : World) (K : KT) (mg : Str → Option Value) (base : Heap) (x : Str) (k : Nat) (ps : List Str) (sd : SpD) : Prop where
  ex : ∃ f fd, FnOk P w K.1 mg base (L2.CX P w) k f fd ps (upF K sd) ∧ mg x = some (.ref f) ∧ PySem.W.keepIn K.1 (.ref f) = true ∧ Binds K.1 fd ps []
/-- a method -/
structure Mt (P : Program) (w : World) (K : KT) (mg : Str → Option Value) (base : Heap) (C : Addr) (m : Str) (k : Nat) (ps : List Str) (sd : SpD) : Prop where
  ex : ∃ f fd, FnOk P w K.1 mg base (L2.CX P w) k f fd ps (upF K sd) ∧ Meth K.1 C m f ∧ Binds K.1 fd ps []
/-- a class that is called -/
structure Mr (P : Program) (w : World) (K : KT) (mg : Str → Option Value) (base : Heap) (x : Str) (C : Addr) (k : Nat) (ps : List Str) (sd : SpD) : Prop where
  ex : ∃ f fd, FnOk P w K.1 mg base (L2.CX P w) k f fd ps (upF K sd) ∧ Mk K.1 C f ∧ mg x = some (.ref C) ∧ Binds K.1 fd ps []
section
variable {X : Cx} {E : EK} {a b c e o : Expr} {es : List Expr} {pos p apos : Pos} {da : DE} {dl : DA} {k j : Nat} {ps : List Str} {sd : SpD} {x m : Str} {Cl : Addr}
theorem pd_fn (F : Fn X.prog X.w (kt X E) X.mg X.base x k ps sd) (hr : Room j X.A) (hx : Passes (L2.CX X.prog X.w) X E.1) (ha : PDA X E (e :: es) dl) (hk : k ≤ j := by decide) (hg : Gl X x := by rfl) (hdb : (x == ("__debug__" : Str)) = false := by decide)
    (he : starEach (e :: es) X.env = (false, eval e X.env) :: starEach es X.env := by rfl) (hpl : (backTo pos (starEach es X.env)).any (·.1) = false := by rfl) : PD X E (.Call (.Name x p) (e :: es) [] pos) (dCall sd dl) := by
  obtain ⟨f, fd, F, hm, kp, hb⟩ := F.ex
  exact pd_call F (hr.mono hk) hg hm kp hb hx ha hdb he hpl
theorem pd_fn0 (F : Fn X.prog X.w (kt X E) X.mg X.base x k ps sd) (hr : Room j X.A) (hx : Passes (L2.CX X.prog X.w) X E.1) (hk : k ≤ j := by decide) (hg : Gl X x := by rfl) (hdb : (x == ("__debug__" : Str)) = false := by decide) : PD X E (.Call (.Name x p) [] [] pos) (dCall sd dNil) := by
  obtain ⟨f, fd, F, hm, kp, hb⟩ := F.ex
  exact pd_call0 F (hr.mono hk) hg hm kp hb hx hdb
theorem pd_mt {pl : Sem Bool} (cl : Cls X.K Cl) (F : Mt X.prog X.w (kt X E) X.mg X.base Cl m k ps sd) (hr : Room j X.A) (hx : Passes (L2.CX X.prog X.w) X E.1) (he : PD X E o da) (ha : PDA X E (e :: es) dl) (hk : k ≤ j := by decide)
    (hst : starEach (e :: es) X.env = (false, eval e X.env) :: starEach es X.env := by rfl) (hpl : (backTo pos (starEach es X.env)).any (·.1) = false := by rfl)
    (ht : eval (.Call (.Attribute o m apos) (e :: es) [] pos) X.env = (do
      let ov ← eval o X.env
      standAt apos.atName
      let (f, first) ← holding [ov] (getMethod ov m pl)
      callWith pos f first (backTo pos (starEach (e :: es) X.env)) (backToKw pos (keywordEach [] X.env))) := by rfl) :
    PD X E (.Call (.Attribute o m apos) (e :: es) [] pos) (dMeth Cl m sd da dl) := by
  obtain ⟨f, fd, F, hm, hb⟩ := F.ex
  exact pd_meth he cl hm F (hr.mono hk) hb hx ha hst hpl ht
theorem pd_mt0 {pl : Sem Bool} (cl : Cls X.K Cl) (F : Mt X.prog X.w (kt X E) X.mg X.base Cl m k ps sd) (hr : Room j X.A) (hx : Passes (L2.CX X.prog X.w) X E.1) (he : PD X E o da) (hk : k ≤ j := by decide)
    (ht : eval (.Call (.Attribute o m apos) [] [] pos) X.env = (do
      let ov ← eval o X.env
      standAt apos.atName
      let (f, first) ← holding [ov] (getMethod ov m pl)
      callWith pos f first (backTo pos (starEach [] X.env)) (backToKw pos (keywordEach [] X.env))) := by rfl) :
    PD X E (.Call (.Attribute o m apos) [] [] pos) (dMeth Cl m sd da dNil) := by
  obtain ⟨f, fd, F, hm, hb⟩ := F.ex
  exact pd_meth0 he cl hm F (hr.mono hk) hb hx ht
theorem pd_mk (M : Mr X.prog X.w (kt X E) X.mg X.base x Cl k ps sd) (hr : Room j X.A) (hx : Passes (L2.CX X.prog X.w) X E.1) (ha : PDA X E (e :: es) dl) (hk : k + 1 ≤ j := by decide) (hg : Gl X x := by rfl) (hdb : (x == ("__debug__" : Str)) = false := by decide)
    (he : starEach (e :: es) X.env = (false, eval e X.env) :: starEach es X.env := by rfl) (hpl : (backTo pos (starEach es X.env)).any (·.1) = false := by rfl) : PD X E (.Call (.Name x p) (e :: es) [] pos) (dMake Cl sd dl) := by
  obtain ⟨f, fd, F, M, hm, hb⟩ := M.ex
  exact pd_make M F (hr.mono hk) hm hb hx ha hg hdb he hpl
theorem pd_mk0 (M : Mr X.prog X.w (kt X E) X.mg X.base x Cl k ps sd) (hr : Room j X.A) (hx : Passes (L2.CX X.prog X.w) X E.1) (hk : k + 1 ≤ j := by decide) (hg : Gl X x := by rfl) (hdb : (x == ("__debug__" : Str)) = false := by decide) : PD X E (.Call (.Name x p) [] [] pos) (dMake Cl sd dNil) := by
  obtain ⟨f, fd, F, M, hm, hb⟩ := M.ex
  exact pd_make0 M F (hr.mono hk) hm hb hx hg hdb
/-- a built-in class's name as a value -/
theorem pd_ty {n : String} (hm : X.mg x = none) (hv : bootBuiltins x = some (.type n)) (hg : Gl X x := by rfl) (hn : x ≠ "__name__" := by decide) (hd : (x == ("__debug__" : Str)) = false := by decide) : PD X E (.Name x pos) (dC (.ty n)) :=
  pd_c (pe_bltn (v := .ty n) hg hm hv rfl hn hd) fun _ => .ty _
def dNeg : D1 := fun x G R => match x with
  | .int i => R (.int (-i)) G
  | _ => False
theorem pd_neg (ha : PD X E a da) : PD X E (.UnaryOp .USub a pos) (dUn dNeg da) := pd_un un_neg (fun T x H d G R Q hr rx q cr => by
  unfold dNeg at q
  split at q
  · cases rx
    exact ⟨_, rfl, cr _ _ _ _ (Up.refl H) hr (.int _) q⟩
  · exact False.elim q) ha
end
/-! a comprehension's block -/
def gNames : List Nat → TGs
  | [] => gNil
  | i :: is => gCons (gName i) (gNames is)
def gsNames : List Nat → DGs
  | [] => gsNil
  | i :: is => gsCons (gN i) (gsNames is)
theorem cts_names {vs : List Nat} : ∀ {is : List Nat}, (∀ i ∈ is, i ∈ vs) → CTs vs (gNames is)
  | [], _ => fun v σ H Q h => ⟨h.1, rfl, h.2⟩
  | i :: is, hm => fun v σ H Q h => by
    obtain ⟨v1, r, e1, h1⟩ := h
    refine ⟨v1, r, e1, ?_⟩
    have h1 : gNames is r (σ.set i (some v1)) H Q := h1
    show gNames is r (σ.set i (some v1)) H _
    have h3 := cts_names (fun j hj => hm j (List.mem_cons_of_mem _ hj)) _ _ _ _ h1
    rw [wipe_set (hm i List.mem_cons_self)] at h3
    exact h3
theorem up_gsNames {K : KT} : ∀ {is : List Nat} {v : List V} {σ : L2.St} {H : Hp} {Q : L2.St → Hp → Prop}, upGs K noE (gsNames is) v σ H Q → gNames is v σ H Q
  | [], v, σ, H, Q, ⟨d, δ, G, R, EX, dv, sr, hr, h, cr, cx⟩ => by
    obtain ⟨rfl, h⟩ := h
    cases dv
    exact ⟨rfl, cr _ _ _ _ (Up.refl H) sr hr h⟩
  | i :: is, v, σ, H, Q, ⟨d, δ, G, R, EX, dv, sr, hr, h, cr, cx⟩ => by
    cases dv with
    | nil => exact False.elim h
    | cons r rr => exact ⟨_, _, rfl, up_gsNames ⟨_, _, G, R, EX, rr, sr.set r, hr, h, cr, cx⟩⟩
section
variable {X : Cx} {E : EK} {scope : Scope} {vs : List Nat} {x : Str} {p : Pos} {elt : Expr} {ifs es : List Expr} {tt : DT} {te : DE} {i k n : Nat} {is : List Nat}
theorem blk_name (hm : i ∈ vs) (hpg : ∀ (s : Shared) (H : Hp) (C : Addr) (cl : List (Str × Addr)) (fp : List Addr), PG (X.blk s H scope (compEnvC scope cl C X.env) fp) (.Name x p) (gName i))
    (ht : ∀ (s : Shared) (H : Hp) (C : Addr) (cl : List (Str × Addr)) (fp : List Addr), PDTs (X.blk s H scope (compEnvC scope cl C X.env) fp) E ifs tt)
    (he : ∀ (s : Shared) (H : Hp) (C : Addr) (cl : List (Str × Addr)) (fp : List Addr), PD (X.blk s H scope (compEnvC scope cl C X.env) fp) (noE, E.2) elt te) : BlkP X E scope vs (.Name x p) elt ifs (gN i) tt te :=
  ⟨⟨gName i, fun v σ H Q h => ⟨wipe_set hm, h⟩, fun v σ H Q ⟨d, δ, G, R, EX, dv, sr, hr, h, cr, cx⟩ => cr _ _ _ _ (Up.refl H) (sr.set dv) hr h, hpg⟩, ht, he⟩
theorem blk_tup (hm : ∀ i ∈ is, i ∈ vs) (hpg : ∀ (s : Shared) (H : Hp) (C : Addr) (cl : List (Str × Addr)) (fp : List Addr), PG (X.blk s H scope (compEnvC scope cl C X.env) fp) (.Tuple es k p) (gTup X.K n (gNames is)))
    (ht : ∀ (s : Shared) (H : Hp) (C : Addr) (cl : List (Str × Addr)) (fp : List Addr), PDTs (X.blk s H scope (compEnvC scope cl C X.env) fp) E ifs tt)
    (he : ∀ (s : Shared) (H : Hp) (C : Addr) (cl : List (Str × Addr)) (fp : List Addr), PD (X.blk s H scope (compEnvC scope cl C X.env) fp) (noE, E.2) elt te) : BlkP X E scope vs (.Tuple es k p) elt ifs (gT n (gsNames is)) tt te := by
  refine ⟨⟨gTup X.K n (gNames is), fun v σ H Q ⟨a, xs, e1, e2, e3, h⟩ => ⟨a, xs, e1, e2, e3, cts_names hm _ _ _ _ h⟩, fun v σ H Q ⟨d, δ, G, R, EX, dv, sr, hr, h, cr, cx⟩ => ?_, hpg⟩, ht, he⟩
  unfold gT at h
  split at h
  · rename_i l e
    obtain ⟨a, xs, rfl, hq, r⟩ := dv.sqT e
    exact ⟨_, _, rfl, hq, by rw [r.length]; exact h.1, up_gsNames ⟨_, δ, G, R, EX, r, sr, hr, h.2, cr, cx⟩⟩
  · exact False.elim h
end
end Cc
/-! ### sorting: of data, by a key that is a lambda -/
namespace Cc
open PySem PySem.Spec PyProof.Rows L2
open PySem.W (EachIs AllAlike Sortable dataLe KeyPure kla_obj kla_fn envX)
/-- a lambda of one parameter that captures nothing -/
structure Lam1 (scope : Scope) (x : Str) : Prop where
  kind : scope.kind = .function
  co : scope.isCoroutine = false
  gen : scope.isGenerator = false
  cell : ∀ y ∈ scope.names, y.2 ≠ .cell
  free : ∀ y ∈ scope.names, y.2 ≠ .free
  loc : scope.names.lookup x = some .local
def lam1B (scope : Scope) (x : Str) : Bool := decide (scope.kind = .function) && !scope.isCoroutine && !scope.isGenerator && (scope.names.all fun y => !decide (y.2 = .cell) && !decide (y.2 = .free)) && decide (scope.names.lookup x = some .local)
theorem lam1_by {scope : Scope} {x : Str} (h : lam1B scope x = true) : Lam1 scope x := by
  unfold lam1B at h
  simp only [Bool.and_eq_true, Bool.not_eq_true', decide_eq_true_eq, decide_eq_false_iff_not, List.all_eq_true] at h
  obtain ⟨⟨⟨⟨h1, h2⟩, h3⟩, h4⟩, h5⟩ := h
  exact ⟨h1, h2, h3, fun y hy => (h4 y hy).1, fun y hy => (h4 y hy).2, h5⟩
section
variable {prog : Program} {w : World} {A : Around} {s : Shared} {x q : Str} {params : Arguments} {body : Expr} {scope : Scope} {f c' : Addr} {pm ctv v : Value} {k : PyData}
theorem lam_key (L : Lam1 scope x) (hf : s.heap.get? f = some (kla_obj "<lambda>" q params body scope [] pm c' ctv)) (hc : s.heap.CodeRec (.ref c') q) (hroom : A.depth < recursionLimit) (hlim : s.heap.NoLimit)
    (hbind : bindArgs (kla_fn "<lambda>" q params body scope [] pm (.ref c') ctv) ⟨[v], []⟩ = pure [(x, v)])
    (hb : ∀ (h₁ : Heap) (tk : Nat), (∀ b o, s.heap.get? b = some o → h₁.get? b = some o) → h₁.Ns s.heap.objs.size (fun y => ([(x, v)] : List (Str × Value)).reverse.lookup y) →
      wpAny (model prog w) (A.deeper (envX q scope s.heap.objs.size f (.ref c') [])) (eval body (envX q scope s.heap.objs.size f (.ref c') [])) (KeyPure k { s with heap := h₁, toks := tk }) (fun _ _ => False) { s with heap := h₁, toks := tk }) :
    wpAny (model prog w) A (call (.ref f) [v]) (KeyPure k s) (fun _ _ => False) s := by
  refine wpAny_call (PySem.W.kla_callFunE hroom hf rfl L.co L.gen rfl hc ?_)
  rw [hbind]
  refine wpAny_pure (wpAny_newFunctionEnv L.cell (fun y hy => ?_) (fun h₁ hns hsb => ⟨hlim.fresh _ hsb, ?_⟩) L.kind)
  · have e : y = (x, v) := by simpa using hy
    subst e
    exact L.loc
  · have kp : ∀ b o, s.heap.get? b = some o → h₁.get? b = some o := fun b o e => hsb.extBut b o (Nat.ne_of_lt (Heap.lt_size e)) (Heap.get?_push_of_some _ e)
    show codeAny _ _ (.expr body (envX q scope s.heap.objs.size f (.ref c') [])) _ _
    refine PySem.W.kla_codeExpr (wpAny_mono (hb h₁ _ kp hns) (fun u s' hq => ?_) fun _ _ z => z.elim)
    obtain ⟨h', tk, e, k1, r⟩ := hq
    subst e
    exact ⟨h', tk, rfl, fun b o e => k1 b o (kp b o e), r⟩
variable {E : Value → Shared → Prop} {Q : Value → Shared → Prop} {L f' : Addr} {cd : Value}
theorem lam_name {p : Pos} (hk : scope.kind = .function) (hl : scope.names.lookup x = some .local) (hn : s.heap.Ns L (fun y => ([(x, v)] : List (Str × Value)).reverse.lookup y)) (hd : (x == ("__debug__" : Str)) = false) (h : Q v s) :
    wpAny (model prog w) A (eval (.Name x p) (envX q scope L f' cd [])) Q E s :=
  wpAny_Name (wpAny_loadName_local hk hl hn (by simp [List.lookup]) h) hd
/-- row[i] -/
theorem lam_ix {p1 p2 p3 : Pos} {i : Nat} {t : Addr} {its : Array Value} {n : Int} {tk : Tok} {jj} (hk : scope.kind = .function) (hl : scope.names.lookup x = some .local) (hn : s.heap.Ns L (fun y => ([(x, .ref t)] : List (Str × Value)).reverse.lookup y)) (hd : (x == ("__debug__" : Str)) = false)
    (ht : IsTup s.heap t its) (hi : its.toList[i]? = some (.int n tk)) (hz : its.size ≤ sizeLine) :
    wpAny (model prog w) A (eval (.Subscript (.Name x p1) (.Constant (.int (i : Nat)) jj p2) p3) (envX q scope L f' cd [])) (KeyPure (.int n) s) (fun _ _ => False) s := by
  refine Subscript_ (lam_name hk hl hn hd (wpAny_Constant_int ?_))
  have hlt : i < its.size := by
    have := (List.getElem?_eq_some_iff.mp hi).1
    simpa using this
  have hn' := line63
  refine subscriptTail_builtinR (x := .int n tk) ht.typeIs slot_tuple_getitem.lookup
    (getItem_tuple (j := i) (Q := fun r s' => r = .int n tk ∧ KeyPure (.int n) s r s') ht (by omega) (by omega) ?_ (by simpa using hi) ⟨rfl, s.heap, s.toks + 1, rfl, fun _ _ e => e, .int _ _⟩) rfl
  unfold seqIndex?
  simp
  omega
/-- row[:i], ints -/
theorem readsAll_ints {h : Heap} : ∀ {vs : List Value} {ns : List Int}, IntsAre vs ns → ReadsAll h vs (ns.map PyData.int) []
  | _, _, .nil => .nil
  | _, _, .cons n t r => .cons (.int n t) (readsAll_ints r)
theorem lam_cut {p1 p2 p3 p4 : Pos} {i : Nat} {t : Addr} {its : Array Value} {ns : List Int} {jj} (hk : scope.kind = .function) (hl : scope.names.lookup x = some .local) (hn : s.heap.Ns L (fun y => ([(x, .ref t)] : List (Str × Value)).reverse.lookup y)) (hd : (x == ("__debug__" : Str)) = false)
    (ht : IsTup s.heap t its) (hi : IntsAre (its.toList.take i) ns) (hlt : i < its.size) (hz : its.size ≤ sizeLine) :
    wpAny (model prog w) A (eval (.Subscript (.Name x p1) (.Slice none (some (.Constant (.int (i : Nat)) jj p2)) none p4) p3) (envX q scope L f' cd [])) (KeyPure (.tuple (ns.map PyData.int)) s) (fun _ _ => False) s := by
  refine Subscript_ (lam_name hk hl hn hd ?_)
  refine wpAny_Slice ?_
  rw [evalPart_none, evalPart_some]
  refine wpAny_pure (wpAny_Constant_int (wpAny_pure ?_))
  have ht' : IsTup (s.heap.push { cls := .type "slice", data := .fields #[.none, .int (i : Nat) s.toks, .none] }) t its := by
    obtain ⟨o, ho, r⟩ := ht
    exact ⟨o, Heap.get?_push_of_some _ ho, r⟩
  have e1 : HT.sIx its.size 0 none = 0 := HT.sIx_none _ _
  have e2 : HT.sIx its.size its.size (some ((i : Nat) : Int)) = i := by rw [HT.sIx_nat]; omega
  refine tail_any (ops := [.ref s.heap.objs.size, .ref t]) ht'.typeIs PyProof.Rows.slot_tuple_getitem.lookup (HT.getItem_tuple_cut ht' (Heap.IsSliceOf.new ..) .none (.int _ _) (by rw [e1, e2]; omega) ?_ hz) (by with_unfolding_all rfl)
  rw [e1, e2, List.drop_zero, Nat.sub_zero]
  refine ⟨_, _, rfl, fun b o e => Heap.get?_push_of_some _ (Heap.get?_push_of_some _ e), .tuple (Heap.get?_push_size _ rfl) rfl rfl ?_⟩
  exact readsAll_ints hi
end
/-! the rule -/
/-- a lambda's body that gives a tuple's key -/
def KeyBody {κ : Type} (x : Str) (body : Expr) (enc : κ → PyData) (kf : D → Option κ) : Prop :=
  ∀ {prog : Program} {w : World} {A : Around} {s : Shared} {q : Str} {scope : Scope} {L f' : Addr} {cd : Value} {K : KT} {H : Hp} {t : Addr} {its : Array Value} {xs : List V} {d : D} {l : List D} {k : κ}, Lam1 scope x → IsTup s.heap t its → Vals xs its.toList → d.tl = some l → DvL K H xs l → kf d = some k →
    its.size ≤ sizeLine → s.heap.Ns L (fun y => ([(x, .ref t)] : List (Str × Value)).reverse.lookup y) → wpAny (model prog w) A (eval body (envX q scope L f' cd [])) (KeyPure (enc k) s) (fun _ _ => False) s
def kI (i : Nat) : D → Option Int := fun d => match d.tl with
  | some l => (match l[i]? with
    | some (.int n) => some n
    | _ => none)
  | none => none
theorem keyIx {x : Str} {i : Nat} {p1 p2 p3 : Pos} {jj} (hd : (x == ("__debug__" : Str)) = false := by decide) : KeyBody x (.Subscript (.Name x p1) (.Constant (.int (i : Nat)) jj p2) p3) PyData.int (kI i) := by
  intro prog w A s q scope L f' cd K H t its xs d l k Lm ht rv e r hk hz hn
  unfold kI at hk
  rw [e] at hk
  dsimp only at hk
  split at hk
  · rename_i n en
    cases hk
    obtain ⟨u, e1, e2⟩ := r.get en
    cases e2
    obtain ⟨z, e3, e4⟩ := rv.get e1
    obtain ⟨tk, rfl⟩ := e4
    exact lam_ix Lm.kind Lm.loc hn hd ht e3 hz
  · cases hk
/-- two ints -/
def kII : D → Option (Int × Int) := fun d => match d.tl with
  | some (.int a :: .int b :: _ :: _) => some (a, b)
  | _ => none
def encII (p : Int × Int) : PyData := .tuple [.int p.1, .int p.2]
theorem keyII {x : Str} {p1 p2 p3 p4 : Pos} {jj} (hd : (x == ("__debug__" : Str)) = false := by decide) : KeyBody x (.Subscript (.Name x p1) (.Slice none (some (.Constant (.int 2) jj p2)) none p4) p3) encII kII := by
  intro prog w A s q scope L f' cd K H t its xs d l k Lm ht rv e r hk hz hn
  unfold kII at hk
  rw [e] at hk
  split at hk
  · rename_i a b c l' el
    cases el
    cases hk
    cases r with
    | cons r1 r =>
      cases r with
      | cons r2 r =>
        cases r with
        | cons r3 r =>
          cases r1
          cases r2
          obtain ⟨its⟩ := its
          cases rv with
          | cons h1 rv =>
            cases rv with
            | cons h2 rv =>
              cases rv with
              | cons h3 rv =>
                obtain ⟨t1, rfl⟩ := h1
                obtain ⟨t2, rfl⟩ := h2
                exact lam_cut (i := 2) (ns := [a, b]) Lm.kind Lm.loc hn hd ht (.cons _ _ (.cons _ _ .nil)) (by simp) hz
  · cases hk
/-- a list by its items' keys, stable -/
def sortG {κ : Type} (enc : κ → PyData) (l : List D) (ks : List κ) : List D := ((l.zip ks).mergeSort (dataLe false fun b => enc b.2)).map Prod.fst
def dSortG {κ : Type} (enc : κ → PyData) (kf : D → Option κ) (da : DE) : DE := fun δ G R EX => da δ G (fun x G1 => match x with
  | .ref a => ∃ (l : List D) (ks : List κ), G1 a = some (.lst l) ∧ l.map kf = ks.map some ∧ l.length ≤ sizeLine ∧ ∀ p, G1 p = none → R (.ref p) (updD G1 p (.lst (sortG enc l ks)))
  | _ => False) EX
theorem each_dv {K : KT} {H : Hp} {κ : Type} : ∀ {out : List Value} {bs : List (D × κ)}, EachIs (fun (v : Value) (b : D × κ) => ∃ y, RelV y v ∧ Dv K H y b.1) out bs → ∃ ys, Vals ys out ∧ DvL K H ys (bs.map Prod.fst)
  | _, _, .nil => ⟨[], .nil, .nil⟩
  | _, _, .cons ⟨y, r1, r2⟩ t => by
    obtain ⟨ys, h1, h2⟩ := each_dv t
    exact ⟨y :: ys, .cons r1 h1, .cons r2 h2⟩
theorem each_of {K : KT} {H : Hp} {κ : Type} : ∀ {xs : List V} {vs : List Value} {l : List D} {ks : List κ}, Vals xs vs → DvL K H xs l → l.length = ks.length → EachIs (fun (v : Value) (b : D × κ) => ∃ y, RelV y v ∧ Dv K H y b.1) vs (l.zip ks)
  | [], _, _, _, r, d, h => by
    cases r
    cases d
    exact .nil
  | x :: xs, _, _, ks, r, d, h => by
    cases r with
    | cons r rv =>
      cases d with
      | cons d dv =>
        cases ks with
        | nil => cases h
        | cons k ks => exact .cons ⟨_, r, d⟩ (each_of rv dv (Nat.succ.inj h))
theorem zip_kf {κ : Type} {kf : D → Option κ} : ∀ {l : List D} {ks : List κ}, l.map kf = ks.map some → ∀ b ∈ l.zip ks, kf b.1 = some b.2
  | [], [], _, b, hb => by cases hb
  | x :: l, k :: ks, h, b, hb => by
    rw [List.map_cons, List.map_cons] at h
    injection h with h1 h2
    rcases List.mem_cons.mp (show b ∈ (x, k) :: l.zip ks from hb) with rfl | hb
    · exact h1
    · exact zip_kf h2 b hb
theorem extN_up {H H1 : Hp} (e : LamX.ExtN H H1) : Up H H1 := ⟨fun a xs h => e a _ h (fun _ z => by cases z), fun a o u h => e a _ h (fun _ z => by cases z), fun a q h => e a _ h (fun ps z => LamX.codeO_ne ps z)⟩
theorem extN_h {K : KT} {G : DH} {H H1 : Hp} (hr : HRel K G H) (e : LamX.ExtN H H1) (t : LamX.Tabs K.2 H1) : HRel K G H1 := ⟨fun a c q => by
  have h := hr a c q
  have u := extN_up e
  cases c with
  | lst l => obtain ⟨xs, q, r⟩ := h; exact ⟨xs, e _ _ q (fun _ z => by cases z), r.up u⟩
  | dK l => obtain ⟨xs, q, r⟩ := h; exact ⟨xs, e _ _ q (fun _ z => by cases z), r.up u⟩
  | dT l => obtain ⟨xs, q, r⟩ := h; exact ⟨xs, e _ _ q (fun _ z => by cases z), r.up u⟩
  | ins cl fs => obtain ⟨dx, xs, q, r⟩ := h; exact ⟨dx, xs, e _ _ q (fun _ z => by cases z), r.up u⟩
  | xd l => obtain ⟨xs, q, r⟩ := h; exact ⟨xs, e _ _ q (fun _ z => by cases z), r.up u⟩, t⟩
section
variable {X : Cx} {E : EK} {e : Expr} {de : DE} {p pos lp kp : Pos} {params : Arguments} {body : Expr} {scope : Scope} {x : Str} {κ : Type} {enc : κ → PyData} {kf : D → Option κ} {c P : Addr} {j : Nat}
theorem pd_sortG (KB : KeyBody x body enc kf) (hal : ∀ a b, PySem.W.alike (enc a) (enc b) = true) (hsk : (∀ b, ∃ y r, enc b = .tuple (y :: r)) ∨ ∀ b, enc b ≠ .none ∧ ∀ xs, enc b ≠ .tuple xs) (hdep : ∀ b, (enc b).depth ≤ 1) (hkf : ∀ d k, kf d = some k → ∃ l, d.tl = some l)
    (TB : LamX.TabB X.base X.mg c P) (hcode : X.env.code = .ref c) (hm : (P, X.env.qual ++ "<lambda>") ∈ E.2) (hu : ∀ q ∈ E.2, q.1 = P → q.2 = X.env.qual ++ "<lambda>")
    (L : Lam1 scope x) (hdef : defaultsOf params X.env = ([], [])) (hbind : ∀ pm c' ctv v, bindArgs (kla_fn "<lambda>" (X.env.qual ++ "<lambda>") params body scope [] pm (.ref c') ctv) ⟨[v], []⟩ = pure [(x, v)])
    (hr : Room (j + 2) X.A) (hf : X.mg "sorted" = none) (ha : PD X E e de) (hg : Gl X "sorted" := by rfl)
    (hs : starEach (e :: []) X.env = (false, eval e X.env) :: starEach [] X.env := by rfl)
    (he : backTo pos (starEach (e :: []) X.env) = (false, eval e X.env) :: backTo pos (starEach [] X.env) := by rfl) (hpl : (backTo pos (starEach (e :: []) X.env)).any (·.1) = false := by rfl)
    (hall : (backToKw pos (keywordEach [⟨some "key", .Lambda params body scope lp, kp⟩] X.env)).all (·.1.isSome) = true := by rfl) (hnone : (backToKw pos (keywordEach [⟨some "key", .Lambda params body scope lp, kp⟩] X.env)).any (·.1.isNone) = false := by rfl)
    (hks : (backToKw pos (keywordEach [⟨some "key", .Lambda params body scope lp, kp⟩] X.env)).filterMap (·.1) = (["key"] : List Str) := by rfl) :
    PD X E (.Call (.Name "sorted" p) [e] [⟨some "key", .Lambda params body scope lp, kp⟩] pos) (dSortG enc kf de) := by
  refine ⟨⟨fun pins s σ H Q I h => ?_⟩⟩
  obtain ⟨δ, G, R, EX, sr, hG, h, cr, cx⟩ := h
  refine wpAny_Call_Name_kw (ld_blt I hg hf (show bootBuiltins "sorted" = some (.builtin "sorted") by decide +kernel) ?_)
  refine PyProof.Rows.callWith_kw (thn ((pa_cons ha.pe pa_nil hs).run pos pins s σ H (fun vs H1 => ∃ (a : Addr) (l : List D) (ks : List κ) (G1 : DH), vs = [.ref a] ∧ Up H H1 ∧ HRel (kt X E) G1 H1 ∧ G1 a = some (.lst l) ∧ l.map kf = ks.map some ∧ l.length ≤ sizeLine ∧ ∀ p, G1 p = none → R (.ref p) (updD G1 p (.lst (sortG enc l ks)))) I
    ⟨δ, G, _, EX, sr, hG, h, fun v H1 d G1 u1 h1 r1 q1 => ?_, cx⟩) fun us s1 ⟨vs, H1, I1, r1, q1⟩ => ?_) he hpl hall hnone
  · dsimp only at q1
    split at q1
    · cases r1
      obtain ⟨l, ks, e1, e2, e3, q⟩ := q1
      exact ⟨_, l, ks, G1, rfl, u1, h1, e1, e2, e3, q⟩
    · exact False.elim q1
  · obtain ⟨a, l, ks, G1, rfl, u1, h1, e1, e2, e3, q⟩ := q1
    rw [hks]
    cases r1 with
    | cons ra rn =>
      cases rn
      cases ra
      show wpAny _ _ (evalAll ((do let v ← eval (.Lambda params body scope lp) X.env; standAt pos; pure v) :: [])) _ _ s1
      refine wpAny_evalAll_cons (wpAny_bind (LamX.lam_make2 (T := E.2) I1 TB hcode hm hu h1.t hdef (fun y hy z => absurd z (L.free y hy)) fun f c' pm ctv H2 s2 I2 ex tb hf2 hfn hfr hc2 => wpAny_bind (wpAny_standAt (wpAny_pure (wpAny_evalAll_nil ?_)))))
      have hcl : cloFrom X.env.cells scope.names [] = [] := by
        have z : ∀ names : List (Str × NameKind), (∀ y ∈ names, y.2 ≠ .free) → cloFrom X.env.cells names [] = [] := fun names => by
          induction names with
          | nil => intro _; rfl
          | cons y r ih =>
            intro hy
            obtain ⟨n, kd⟩ := y
            have h0 := hy (n, kd) List.mem_cons_self
            have ih := ih fun y hm => hy y (List.mem_cons_of_mem _ hm)
            unfold cloFrom
            cases kd <;> first | exact ih | exact absurd rfl h0
        exact z _ L.free
      rw [hcl] at hf2
      have h2 : HRel (kt X E) G1 H2 := extN_h h1 ex tb
      obtain ⟨xs, ha2, rl⟩ := h2 _ _ e1
      obtain ⟨its, rv, pl, hz⟩ := I2.list (SqL.of ha2)
      have hlk : l.length = ks.length := by
        have z := congrArg List.length e2
        rwa [List.length_map, List.length_map] at z
      have hbs : (l.zip ks).length = l.length := by rw [List.length_zip, ← hlk, Nat.min_self]
      have hcr : s2.heap.CodeRec (.ref c') (X.env.qual ++ "<lambda>") := by
        obtain ⟨⟨oc, vs, t, hoc, hdc, hvc⟩, _, _⟩ := I2.hok c' _ hc2
        exact ⟨c', oc, vs, t, rfl, hoc, hdc, hvc⟩
      have hun := hr.units
      refine PySem.W.sorted_key_data (b := false) (R := fun (v : Value) (b : D × κ) => ∃ y, RelV y v ∧ Dv (kt X E) H2 y b.1) (fun b : D × κ => enc b.2) pl.isList (each_of rv rl hlk) ?hal ?hsk (by rw [hbs]; exact e3) (fun b _ => ?_) (PyProof.Rows.ksk_s1 _ _) (fun _ => PyProof.Rows.ksk_l1 _ _) (fun _ => PyProof.Rows.ksk_t1 _ _) (fun v b ⟨y, ry, dy⟩ hb h' tk kp => ?_) fun out cc h' tk kp fr hD hlen eo => ?_
      case hal =>
        exact AllAlike.of fun b b' => hal _ _
      case hsk =>
        rcases hsk with z | z
        · exact Sortable.tuples fun b => z _
        · exact Sortable.others fun b => z _
      · have := hdep b.2
        omega
      · have kk := zip_kf e2 b hb
        obtain ⟨l', el⟩ := hkf _ _ kk
        obtain ⟨t, xs', ey, hq, r'⟩ := dy.sqT el
        subst ey
        obtain rfl : v = .ref t := ry
        obtain ⟨its', rv', pt, hz'⟩ := I2.tuple hq
        have pt' : IsTup h' t its'.toArray := by
          obtain ⟨o, ho, rest⟩ := pt
          exact ⟨o, kp _ _ ho, rest⟩
        refine lam_key (s := { s2 with heap := h', toks := tk }) L (kp _ _ hf2) (hcr.keeps kp) hr.in1.in1.depth (I2.nolimit.keeps kp) (hbind pm c' ctv _) fun h₁ tk1 k1 hn => ?_
        have pt2 : IsTup h₁ t its'.toArray := by
          obtain ⟨o, ho, rest⟩ := pt'
          exact ⟨o, k1 _ _ ho, rest⟩
        exact KB (s := { s2 with heap := h₁, toks := tk1 }) L pt2 (by simpa using rv') el r' kk (by rw [List.size_toArray, ← rv'.length]; exact hz') hn
      · obtain ⟨ys, v1, v2⟩ := each_dv eo
        have fp : H2 (s2.heap.objs.size + 1) = none := I2.hok.fresh (Nat.le_succ _)
        have I3 : Inv X pins σ (upd H2 (s2.heap.objs.size + 1) (.lst ys)) { s2 with heap := h', toks := tk } := I2.laid kp (Nat.le_succ _) ⟨by rw [v2.length, List.length_map, List.length_mergeSort, hbs]; exact e3, _, _, v1, hD⟩
        have un := Up.new (o := .lst ys) fp
        exact ⟨.ref (s2.heap.objs.size + 1), _, I3, rfl, cr _ _ _ _ (u1.trans ((extN_up ex).trans un)) (h2.new (c := .lst _) fp ⟨ys, upd_same, v2.up un⟩) (.ref _) (q _ (h2.none fp))⟩
end
end Cc
/-! ### sorted of data, membership at any depth, pairs of names, while -/
namespace Cc
open PySem PySem.Spec PyProof.Rows L2
open PySem.W (EachIs AllAlike Sortable dataLe)
def sortV (bs : List (V × PyData)) : List V := (bs.mergeSort (dataLe false Prod.snd)).map Prod.fst
def rSortD (K : PySem.W.Frag) : List V → Hp → VK → Prop := fun vs H Q => ∃ (a : Addr) (bs : List (V × PyData)), vs = [V.ref a] ∧ SqL K H a (bs.map Prod.fst) ∧ (∀ b ∈ bs, Dp K H b.1 b.2) ∧ AllAlike (bs.map Prod.snd) ∧ Sortable (bs.map Prod.snd) ∧ (∀ b ∈ bs, b.2.depth ≤ 40) ∧
  bs.length ≤ sizeLine ∧ ∀ p, H p = none → Q (.ref p) (upd H p (.lst (sortV bs)))
theorem each_of_vals {P : Value → (V × PyData) → Prop} : ∀ {bs : List (V × PyData)} {vs : List Value}, Vals (bs.map Prod.fst) vs → (∀ b ∈ bs, ∀ v, RelV b.1 v → P v b) → EachIs P vs bs
  | [], _, r, _ => by cases r; exact .nil
  | b :: bs, _, r, h => by
    cases r with
    | cons r rs => exact .cons (h b List.mem_cons_self _ r) (each_of_vals rs fun c hc => h c (List.mem_cons_of_mem _ hc))
theorem vals_of_each : ∀ {bs : List (V × PyData)} {vs : List Value}, EachIs (fun v (b : V × PyData) => RelV b.1 v) vs bs → Vals (bs.map Prod.fst) vs
  | _, _, .nil => .nil
  | _, _, .cons r t => .cons r (vals_of_each t)
section
variable {X : Cx}
theorem cr_sortD (hu : X.A.units + 42 < cLine) : CallR X (.builtin "sorted") (rSortD X.K) := by
  intro pins s σ H vs us Q I r h
  obtain ⟨a, bs, rfl, hs, hd, hal, hk, hdep, hz, q⟩ := h
  obtain ⟨its, rv, hl, _⟩ := I.list hs
  rw [Vals.ref1 r]
  refine PySem.W.sorted_data (R := fun v (b : V × PyData) => RelV b.1 v) (enc := Prod.snd) hl.isList (each_of_vals rv fun b _ v r => r) (each_of_vals rv fun b hb v r => Dp.reads I b.2 b.1 v (hd b hb) r) hal hk hz (fun b hb => by have := hdep b hb; omega) fun out ho eo => ?_
  obtain ⟨ep, he'⟩ := PyProof.Rows.sortedAll_at s.heap its out.toArray
  have hlen : (sortV bs).length ≤ sizeLine := by unfold sortV; rw [List.length_map, List.length_mergeSort]; exact hz
  refine ⟨.ref _, upd H (s.heap.objs.size + 1) (.lst (sortV bs)), I.laid (t' := s.toks) (fun _ _ => PyProof.Rows.sortedAll_old) (Nat.le_succ _) ⟨hlen, out, ep, vals_of_each eo, he'⟩, rfl, q _ (I.hok.fresh (Nat.le_succ _))⟩
/-- a list by its items' order -/
def sortD (l : List D) (ts : List PyData) : List D := ((l.zip ts).mergeSort (dataLe false Prod.snd)).map Prod.fst
def lstOf (G : DH) (x : D) : Option (List D) := match x with
  | .ref a => (match G a with
    | some (.lst l) => some l
    | _ => none)
  | .rol l => some l
  | _ => none
theorem lstOf_sq {K : KT} {G : DH} {H : Hp} {v : V} {y : D} {l : List D} (hr : HRel K G H) (r : Dv K H v y) (e : lstOf G y = some l) : ∃ p xs, v = .ref p ∧ SqL K.1 H p xs ∧ DvL K H xs l := by
  unfold lstOf at e
  split at e
  · cases r
    split at e
    · rename_i a l' ea
      cases e
      obtain ⟨xs, e1, r1⟩ := hr _ _ ea
      exact ⟨_, _, rfl, SqL.of e1, r1⟩
    · cases e
  · cases e
    cases r with
    | rol hq r => exact ⟨_, _, rfl, hq.sqL, r⟩
  · cases e
def dSorted : DC := fun xs G R => match xs with
  | [x] => ∃ l ts, lstOf G x = some l ∧ RddL G l ts ∧ AllAlike ts ∧ Sortable ts ∧ (∀ t ∈ ts, t.depth ≤ 40) ∧ l.length ≤ sizeLine ∧ ∀ p, G p = none → R (.ref p) (updD G p (.lst (sortD l ts)))
  | _ => False
theorem RddL.len {G : DH} : ∀ {l : List D} {ts : List PyData}, RddL G l ts → l.length = ts.length
  | _, _, .nil => rfl
  | _, _, .cons _ r => congrArg (· + 1) (RddL.len r)
theorem dpAll_at {K : PySem.W.Frag} {H : Hp} : ∀ {vs : List V} {ts : List PyData}, DpAll K H vs ts → ∀ b ∈ vs.zip ts, Dp K H b.1 b.2
  | _, _, .nil, b, hb => by cases hb
  | _, _, .cons h r, b, hb => by
    rcases List.mem_cons.mp (show b ∈ (_, _) :: _ from hb) with rfl | hb
    · exact h
    · exact dpAll_at r b hb
theorem zip_pair {α β γ : Type} {P : α → β → Prop} : ∀ {vs : List α} {ds : List β} {ts : List γ}, vs.length = ds.length → True
  | _, _, _, _ => trivial
theorem dvL_zip {K : KT} {H : Hp} : ∀ {vs : List V} {ds : List D} {ts : List PyData}, DvL K H vs ds → vs.length = ts.length → EachIs (fun (a : V × PyData) (b : D × PyData) => Dv K H a.1 b.1 ∧ a.2 = b.2) (vs.zip ts) (ds.zip ts)
  | _, _, [], .nil, _ => .nil
  | _, _, t :: ts, .cons h r, e => .cons ⟨h, rfl⟩ (dvL_zip r (Nat.succ.inj e))
theorem dvL_of_each {K : KT} {H : Hp} : ∀ {as : List (V × PyData)} {bs : List (D × PyData)}, EachIs (fun (a : V × PyData) (b : D × PyData) => Dv K H a.1 b.1 ∧ a.2 = b.2) as bs → DvL K H (as.map Prod.fst) (bs.map Prod.fst)
  | _, _, .nil => .nil
  | _, _, .cons h r => .cons h.1 (dvL_of_each r)
/-- pairs sorted by an equal rank stay paired -/
theorem each_sort {α β : Type} {P : α → β → Prop} {le : α → α → Bool} {le' : β → β → Bool} (hle : ∀ a b c d, P a b → P c d → le a c = le' b d) :
    ∀ {as : List α} {bs : List β}, EachIs P as bs → EachIs P (as.mergeSort le) (bs.mergeSort le') := by
  intro as bs h
  have key : ∀ {as : List α} {bs : List β}, EachIs P as bs → ∃ zs : List (α × β), as = zs.map Prod.fst ∧ bs = zs.map Prod.snd ∧ ∀ z ∈ zs, P z.1 z.2 := by
    intro as bs h
    induction h with
    | nil => exact ⟨[], rfl, rfl, fun z hz => by cases hz⟩
    | cons h _ ih =>
      obtain ⟨zs, rfl, rfl, hz⟩ := ih
      refine ⟨(_, _) :: zs, rfl, rfl, fun z hm => ?_⟩
      rcases List.mem_cons.mp hm with rfl | hm
      · exact h
      · exact hz z hm
  obtain ⟨zs, rfl, rfl, hz⟩ := key h
  have back : ∀ {zs : List (α × β)}, (∀ z ∈ zs, P z.1 z.2) → EachIs P (zs.map Prod.fst) (zs.map Prod.snd) := by
    intro zs
    induction zs with
    | nil => intro _; exact .nil
    | cons z zs ih => intro h; exact .cons (h z List.mem_cons_self) (ih fun y hy => h y (List.mem_cons_of_mem _ hy))
  rw [← List.map_mergeSort (r := fun z y : α × β => le z.1 y.1) (fun a _ b _ => rfl), ← List.map_mergeSort (r := fun z y : α × β => le z.1 y.1) (s := le') (f := Prod.snd) (l := zs) fun a ha b hb => hle _ _ _ _ (hz a ha) (hz b hb)]
  exact back fun z hm => hz z ((List.mergeSort_perm _ _).mem_iff.mp hm)
theorem cd_sorted (hu : X.A.units + 64 < cLine) : CD X (.builtin "sorted") dSorted := ⟨_, cr_sortD (by omega), fun T x H d G R Q hr r q cr => by
  unfold dSorted at q
  split at q
  · cases r with
    | cons r1 r2 =>
      cases r2
      obtain ⟨l, ts, e, rd, hal, hk, hdep, hz, q⟩ := q
      obtain ⟨p, xs, rfl, hq, rl⟩ := lstOf_sq hr r1 e
      have hl : xs.length = ts.length := rl.length.trans rd.len
      have e1 : (xs.zip ts).map Prod.fst = xs := List.map_fst_zip (by omega)
      have e2 : (xs.zip ts).map Prod.snd = ts := List.map_snd_zip (by omega)
      refine ⟨p, xs.zip ts, rfl, by rw [e1]; exact hq, dpAll_at (RddL.dp hr rd rl), by rw [e2]; exact hal, by rw [e2]; exact hk, fun b hb => hdep _ (by rw [← e2]; exact List.mem_map.mpr ⟨b, hb, rfl⟩), by rw [List.length_zip, rl.length]; omega, fun n hn => ?_⟩
      have un := Up.new (o := .lst (sortV (xs.zip ts))) hn
      refine cr _ _ _ _ un (hr.new (c := .lst (sortD l ts)) hn ⟨sortV (xs.zip ts), upd_same, ?_⟩) (.ref n) (q n (hr.none hn))
      have z := each_sort (le := dataLe false Prod.snd) (le' := dataLe false (Prod.snd : D × PyData → PyData)) (fun a b c d h1 h2 => by
        show PySem.W.dataLe false (fun t : PyData => t) a.2 c.2 = PySem.W.dataLe false (fun t : PyData => t) b.2 d.2
        rw [h1.2, h2.2]) (dvL_zip rl hl)
      exact (dvL_of_each z).up un
  · exact False.elim q⟩
/-! membership at any depth, in a tuple -/
def rInT (neg : Bool) (K : PySem.W.Frag) : R2 := fun x y H Q => ∃ d ds, Dp K H x d ∧ Dp K H y (.tuple ds) ∧ SeqAt.shaped d = true ∧ SeqAt.shaped (.tuple ds) = true ∧ Q (.bl (xor neg (ds.any fun z => PyData.eqv z d))) H
theorem op_inT (hu : X.A.units + 64 < cLine) : OpR X (compareOp .In) (rInT false X.K) := by
  intro pins s σ H x y v u Q I rx ry h
  obtain ⟨d, ds, hd, he, sd, se, q⟩ := h
  obtain ⟨as, r1⟩ := Dp.reads I d x v hd rx
  obtain ⟨bs, r2⟩ := Dp.reads I (.tuple ds) y u he ry
  refine SeqAt.in_tuple_reads r2 r1 (SeqAt.canLay_of_shaped se) (SeqAt.canLay_of_shaped sd) ?_ ⟨.bl _, H, I, rfl, by simpa using q⟩
  have z := SeqAt.depth_of_shaped se
  rw [PyData.depth] at z
  omega
theorem op_notInT (hu : X.A.units + 64 < cLine) : OpR X (compareOp .NotIn) (rInT true X.K) := by
  intro pins s σ H x y v u Q I rx ry h
  obtain ⟨d, ds, hd, he, sd, se, q⟩ := h
  obtain ⟨as, r1⟩ := Dp.reads I d x v hd rx
  obtain ⟨bs, r2⟩ := Dp.reads I (.tuple ds) y u he ry
  refine SeqAt.notIn_tuple_reads r2 r1 (SeqAt.canLay_of_shaped se) (SeqAt.canLay_of_shaped sd) ?_ ⟨.bl _, H, I, rfl, by simpa using q⟩
  have z := SeqAt.depth_of_shaped se
  rw [PyData.depth] at z
  omega
def dInT (neg : Bool) : D2 := fun x y G R => ∃ t ds, Rdd G x t ∧ Rdd G y (.tuple ds) ∧ SeqAt.shaped t = true ∧ SeqAt.shaped (.tuple ds) = true ∧ R (.bl (xor neg (ds.any fun z => PyData.eqv z t))) G
theorem lift_inT (neg : Bool) (T : List (Addr × Str)) : Lift2 (X.K, T) (rInT neg X.K) (dInT neg) := fun x y H d e G R Q hr rx ry q cr => by
  obtain ⟨t, ds, h1, h2, s1, s2, q⟩ := q
  exact ⟨t, ds, h1.dp hr rx, h2.dp hr ry, s1, s2, cr _ _ _ _ (Up.refl H) hr (.bl _) q⟩
theorem od_inT (hu : X.A.units + 64 < cLine) : OD X (compareOp .In) (dInT false) := ⟨_, op_inT hu, lift_inT false⟩
theorem od_notInT (hu : X.A.units + 64 < cLine) : OD X (compareOp .NotIn) (dInT true) := ⟨_, op_notInT hu, lift_inT true⟩
end
/-! pairs of names -/
section
variable {X : Cx} {E : EK} {a b c : Expr} {dl : DA} {pos : Pos} {i j l : Nat} {x y z : Str} {px py pz pt : Pos} {k1 k2 pt2}
def sPar2 (i j : Nat) (dl : DA) : DSt := fun D δ G => dl δ G (fun xs G1 => match xs with
  | [u, v] => D.nx ((δ.set i (some u)).set j (some v)) G1
  | _ => False) D.ex
theorem pds_par2 (hc : X.calm = true) (hN : X.N.Nodup) (hi : X.N[i]? = some x) (hj : X.N[j]? = some y) (hij : i ≠ j)
    (hx : X.env.scope.names.lookup x = some .local) (hy : X.env.scope.names.lookup y = some .local) (ha : PDA X E [a, b] dl)
    (hw : swappedStores [.Tuple [.Name x px, .Name y py] k1 pt] (.Tuple [a, b] k2 pt2) X.env = pure (some [x, y]) := by rfl)
    (hs : swapsWithSole [.Tuple [.Name x px, .Name y py] k1 pt] (.Tuple [a, b] k2 pt2) pos.line X.env = pure false := by rfl) :
    PDS X E (.Assign [.Tuple [.Name x px, .Name y py] k1 pt] (.Tuple [a, b] k2 pt2) pos) (sPar2 i j dl) :=
  ⟨imS (ps_par hc hN hi hj hij hx hy ha.pa hw hs) fun Dn σ H ⟨δ, G, DD, sr, hr, h, cn, ct, cb, cc, cx⟩ => ⟨δ, G, _, DD.ex, sr, hr, h, fun vs H1 ds G1 u1 h1 r1 q1 => by
    cases r1 with
    | nil => exact False.elim q1
    | cons r1 r =>
      cases r with
      | nil => exact False.elim q1
      | cons r2 r =>
        cases r with
        | nil => exact ⟨_, _, rfl, cn _ _ _ _ u1 (((sr.up u1).set r1).set r2) h1 q1⟩
        | cons => exact False.elim q1, cx⟩⟩
def sPar3 (i j l : Nat) (dl : DA) : DSt := fun D δ G => dl δ G (fun xs G1 => match xs with
  | [u, v, w] => D.nx (((δ.set i (some u)).set j (some v)).set l (some w)) G1
  | _ => False) D.ex
theorem pds_par3 (hc : X.calm = true) (hN : X.N.Nodup) (hi : X.N[i]? = some x) (hj : X.N[j]? = some y) (hl : X.N[l]? = some z) (hij : i ≠ j) (hil : i ≠ l) (hjl : j ≠ l)
    (hx : X.env.scope.names.lookup x = some .local) (hy : X.env.scope.names.lookup y = some .local) (hz : X.env.scope.names.lookup z = some .local) (ha : PDA X E [a, b, c] dl)
    (hw : swappedStores [.Tuple [.Name x px, .Name y py, .Name z pz] k1 pt] (.Tuple [a, b, c] k2 pt2) X.env = pure (some [x, y, z]) := by rfl)
    (hs : swapsWithSole [.Tuple [.Name x px, .Name y py, .Name z pz] k1 pt] (.Tuple [a, b, c] k2 pt2) pos.line X.env = pure false := by rfl) :
    PDS X E (.Assign [.Tuple [.Name x px, .Name y py, .Name z pz] k1 pt] (.Tuple [a, b, c] k2 pt2) pos) (sPar3 i j l dl) :=
  ⟨imS (ps_par3 hc hN hi hj hl hij hil hjl hx hy hz ha.pa hw hs) fun Dn σ H ⟨δ, G, DD, sr, hr, h, cn, ct, cb, cc, cx⟩ => ⟨δ, G, _, DD.ex, sr, hr, h, fun vs H1 ds G1 u1 h1 r1 q1 => by
    cases r1 with
    | nil => exact False.elim q1
    | cons r1 r =>
      cases r with
      | nil => exact False.elim q1
      | cons r2 r =>
        cases r with
        | nil => exact False.elim q1
        | cons r3 r =>
          cases r with
          | nil => exact ⟨_, _, _, rfl, cn _ _ _ _ u1 ((((sr.up u1).set r1).set r2).set r3) h1 q1⟩
          | cons => exact False.elim q1, cx⟩⟩
/-! while -/
def sWhile (c : DT) (t : DSt) : DSt := fun D δ G => ∃ W : Nat → DS → DH → Prop, (∃ m, W m δ G) ∧ ∀ m δ G, W m δ G →
  c δ G (fun b G1 => if b = true then t { D with nx := fun δ' G' => ∃ m', m' < m ∧ W m' δ' G', ct := fun δ' G' => ∃ m', m' < m ∧ W m' δ' G', bk := D.nx } δ G1 else D.nx δ G1) D.ex
theorem pds_while {cd : Expr} {body : List Stmt} {tc : DT} {tb : DSt} (hp : PassesOwn (model X.prog X.w) X.A X.env X.xe) (hc : PDT X E cd tc) (hb : PDSs X E body tb) : PDS X E (.While cd body [] pos) (sWhile tc tb) :=
  ⟨imS (ps_while hp hc.pt hb.ps) fun Dn σ H ⟨δ, G, DD, sr, hr, h, cn, ct, cb, cc, cx⟩ => by
    obtain ⟨W, ⟨m0, w0⟩, turn⟩ := h
    refine ⟨fun m σ' H' => ∃ δ' G', SRel (kt X E) H' σ' δ' ∧ HRel (kt X E) G' H' ∧ Up H H' ∧ W m δ' G', ⟨m0, δ, G, sr, hr, Up.refl H, w0⟩, ?_⟩
    rintro m σ1 H1 ⟨δ1, G1, s1, h1, u1, w1⟩
    refine ⟨δ1, G1, _, _, s1, h1, turn m δ1 G1 w1, fun b H2 G2 u2 h2 q2 => ?_, cx.up u1⟩
    have u12 := u1.trans u2
    cases b with
    | true =>
      rw [if_pos rfl] at q2
      show if true = true then _ else _
      rw [if_pos rfl]
      exact ⟨fun σ' H' => ∃ m', m' < m ∧ ∃ δ' G', SRel (kt X E) H' σ' δ' ∧ HRel (kt X E) G' H' ∧ Up H H' ∧ W m' δ' G', fun σ' H' z => z,
        δ1, G2, _, s1.up u2, h2, q2, fun σ3 H3 δ3 G3 u3 s3 h3 ⟨m', l, w⟩ => ⟨m', l, δ3, G3, s3, h3, u12.trans u3, w⟩, ct.up u12, cn.up u12, fun σ3 H3 δ3 G3 u3 s3 h3 ⟨m', l, w⟩ => ⟨m', l, δ3, G3, s3, h3, u12.trans u3, w⟩, cx.up u12⟩
    | false =>
      rw [if_neg Bool.false_ne_true] at q2
      show if false = true then _ else _
      rw [if_neg Bool.false_ne_true]
      exact cn _ _ _ _ u12 (s1.up u2) h2 q2⟩
end
/-! keys -/
theorem encI_alike : ∀ a b : Int, PySem.W.alike (PyData.int a) (PyData.int b) = true := fun a b => by simp [PySem.W.alike]
theorem encI_sort : (∀ b : Int, ∃ y r, PyData.int b = .tuple (y :: r)) ∨ ∀ b : Int, PyData.int b ≠ .none ∧ ∀ xs, PyData.int b ≠ .tuple xs := .inr fun b => ⟨(by intro h; cases h), (by intro xs h; cases h)⟩
theorem encI_depth : ∀ b : Int, (PyData.int b).depth ≤ 1 := fun b => by simp [PyData.depth]
theorem kI_tl {i : Nat} : ∀ d k, kI i d = some k → ∃ l, d.tl = some l := fun d k h => by
  unfold kI at h
  split at h
  · rename_i l e
    exact ⟨l, e⟩
  · cases h
theorem encII_alike : ∀ a b : Int × Int, PySem.W.alike (encII a) (encII b) = true := fun a b => by simp [encII, PySem.W.alike, PySem.W.alikeAll]
theorem encII_sort : (∀ b : Int × Int, ∃ y r, encII b = .tuple (y :: r)) ∨ ∀ b : Int × Int, encII b ≠ .none ∧ ∀ xs, encII b ≠ .tuple xs := Or.inl fun b => ⟨.int b.1, [.int b.2], rfl⟩
theorem encII_depth : ∀ b : Int × Int, (encII b).depth ≤ 1 := fun b => by simp [encII, PyData.depth, PyData.depthAll]
theorem kII_tl : ∀ d k, kII d = some k → ∃ l, d.tl = some l := fun d k h => by
  unfold kII at h
  split at h
  · rename_i e
    exact ⟨_, e⟩
  · cases h
end Cc
/-! ### plain reasoning over readings; the draws, the comparison -/
namespace Cc
open PySem PySem.Spec PyProof.Rows L2
/-! loops -/
theorem goFor_by {ok : DH → Prop} {g : DG} {tb : DSt} {Dn : DEnds} (I : List D → DS → DH → Prop) (hok : ∀ xs δ G, I xs δ G → ok G) (hnil : ∀ δ G, I [] δ G → Dn.nx δ G)
    (hs : ∀ x xs δ G (N : DS → DH → Prop), I (x :: xs) δ G → (∀ δ' G', I xs δ' G' → N δ' G') → g x δ G (fun δ2 G2 => tb { Dn with nx := N, ct := N, bk := Dn.nx } δ2 G2) Dn.ex) :
    ∀ (l : List D) (δ : DS) (G : DH), I l δ G → goFor ok g tb Dn l δ G
  | [], δ, G, h => ⟨hok _ _ _ h, hnil _ _ h⟩
  | x :: xs, δ, G, h => ⟨hok _ _ _ h, hs x xs δ G _ h fun δ' G' h' => goFor_by I hok hnil hs xs δ' G' h'⟩
theorem goLc_by {ok : DH → Prop} {a : Addr} {g : DG} {tt : DT} {te : DE} {k : DH → Prop} {δ : DS} (I : List D → DH → Prop) (hok : ∀ xs G, I xs G → ok G) (hnil : ∀ G, I [] G → k G)
    (hs : ∀ x xs G (N : DH → Prop), I (x :: xs) G → (∀ G', I xs G' → N G') → g x δ G (fun δ2 G2 => tt δ2 G2 (fun b G3 => if b = true then te δ2 G3 (fun y G4 => ∃ acc, G4 a = some (.lst acc) ∧ acc.length < sizeLine ∧ N (updD G4 a (.lst (acc ++ [y])))) noX else N G3) noX) noX) :
    ∀ (l : List D) (G : DH), I l G → goLc ok a g tt te k δ l G
  | [], G, h => ⟨hok _ _ h, hnil _ h⟩
  | x :: xs, G, h => ⟨hok _ _ h, hs x xs G _ h fun G' h' => goLc_by I hok hnil hs xs G' h'⟩
/-- a comprehension that changes nothing -/
theorem goLc_map {ok : DH → Prop} {a : Addr} {g : DG} {tt : DT} {te : DE} {k : DH → Prop} {δ : DS} {G0 : DH} (F : D → Option D) (l : List D) (hl : l.length ≤ sizeLine) (hok : ∀ acc, ok (updD G0 a (.lst acc)))
    (hk : k (updD G0 a (.lst (l.filterMap F))))
    (hs : ∀ x ∈ l, ∀ acc (N : DH → Prop), acc.length < sizeLine → (match F x with
      | none => N (updD G0 a (.lst acc))
      | some y => N (updD G0 a (.lst (acc ++ [y])))) → g x δ (updD G0 a (.lst acc)) (fun δ2 G2 => tt δ2 G2 (fun b G3 => if b = true then te δ2 G3 (fun y G4 => ∃ acc, G4 a = some (.lst acc) ∧ acc.length < sizeLine ∧ N (updD G4 a (.lst (acc ++ [y])))) noX else N G3) noX) noX) :
    goLc ok a g tt te k δ l (updD G0 a (.lst [])) := by
  refine goLc_by (fun xs G => ∃ ys, l = ys ++ xs ∧ G = updD G0 a (.lst (ys.filterMap F))) (fun xs G ⟨ys, _, e⟩ => by rw [e]; exact hok _) (fun G ⟨ys, e1, e⟩ => by
    rw [List.append_nil] at e1
    subst e1
    rw [e]
    exact hk) (fun x xs G N ⟨ys, e1, e2⟩ hN => ?_) l _ ⟨[], rfl, rfl⟩
  subst e2
  have hlen : (ys.filterMap F).length < sizeLine := by
    have h1 := List.length_filterMap_le F ys
    rw [e1, List.length_append, List.length_cons] at hl
    omega
  refine hs x (by rw [e1]; simp) _ N hlen ?_
  cases q : F x with
  | none => exact hN _ ⟨ys ++ [x], by rw [e1]; simp, by simp [List.filterMap_append, q]⟩
  | some y => exact hN _ ⟨ys ++ [x], by rw [e1]; simp, by simp [List.filterMap_append, q]⟩
/-! forgetting what is not needed -/
def frg (R : DK) : DK := fun v G => ∃ G1, Sub G1 G ∧ R v G1
theorem frg_of {R : DK} {v : D} {G : DH} (h : R v G) : frg R v G := ⟨G, Sub.refl G, h⟩
theorem clo_frg {K : KT} {H : Hp} {Q : VK} {R : DK} (h : CloR K H Q R) : CloR K H Q (frg R) := fun v H' d G' u hr r ⟨G1, s, q⟩ => h v H' d G1 u (hr.sub s) r q
section
variable {P : Program} {w : World} {K : PySem.W.Frag} {T : List (Addr × Str)} {cv : Value → Prop} {mg : Str → Option Value} {base : Heap} {N ps : List Str} {x qual : Str} {params : Arguments} {body : List Stmt} {scope : Scope} {dvs : List V} {kws : List (Str × V)} {f : Addr} {fd : FuncData} {k : Nat} {sb : DSt} {sd : SpD}
theorem okF (F : FunD K x qual params body scope dvs kws f fd) (S : FnScope N ps scope) (hcv : cv fd.code) (len : ∀ ds G R EX, sd ds G R EX → ds.length = ps.length) (B : BodyD P w K T cv mg base N qual scope body k sb)
    (hp : ∀ ds G R EX, sd ds G R EX → sb (endsD (frg R) EX) (startD N ds) G) : FnOk P w K mg base (L2.CX P w) (k + 1) f fd ps (upF (K, T) sd) := by
  have z := okD (T := T) (sd := fun ds G R EX => ds.length = ps.length ∧ sb (endsD R EX) (startD N ds) G) F S hcv (fun ds G R EX h => h.1) B (fun ds G R EX h => h.2)
  exact z.imp fun vs H Q E ⟨ds, G, R, EX, dv, hr, q, cr, cx⟩ => ⟨ds, G, frg R, EX, dv, hr, ⟨len _ _ _ _ q, hp _ _ _ _ q⟩, clo_frg cr, cx⟩
end
/-! the draws -/
def Draws (l : List D) : Prop := ∃ (x y : Int) (zs : List Int), l = .int x :: .int y :: zs.map D.int
def sd__law_off : SpD := fun ds G R _ => ∃ (a : Addr) (m : Int) (l : List D), ds = [.ref a, .int m] ∧ G a = some (.lst l) ∧ Draws l ∧ 0 < m ∧ m < 1073741824 ∧ ∀ r l', 0 ≤ r → r < m → Draws l' → R (.int r) (updD G a (.lst l'))
def seqI (G : DH) (x : D) (ns : List Int) : Prop := x = .rol (ns.map D.int) ∨ ∃ a, x = .ref a ∧ G a = some (.lst (ns.map D.int))
def sd__law_dice : SpD := fun ds G R _ => ∃ (x : D) (k : Int) (ns : List Int), ds = [x, .int k] ∧ seqI G x ns ∧ ns.length ≤ 1000 ∧ ∀ p l, G p = none → Draws l → R (.ref p) (updD G p (.lst l))
mutual
/-- no list, no tuple of it is very long -/
def lean : PyData → Bool
  | .list xs => decide (xs.length ≤ 100000) && leanAll xs
  | .tuple xs => decide (xs.length ≤ 100000) && leanAll xs
  | .dict _ => false
  | _ => true
def leanAll : List PyData → Bool
  | [] => true
  | x :: xs => lean x && leanAll xs
end
def sd__law_alike : Nat → SpD
  | 0 => fun _ _ _ _ => False
  | k + 1 => fun ds G R _ => ∃ (x y : D) (t : PyData), ds = [x, y] ∧ Rdd G x t ∧ Rdd G y t ∧ t.depth ≤ k ∧ lean t = true ∧ R (.bl true) G
def b__law_off : DSt :=
  (sSeq (sIf (dAnd (dTest (dOp dEq (dOp dIx (dVar 0) (dC (.int 1))) (dC (.int 0)))) (dTest (dOp dGt (dCB dLen (dCons (dVar 0) dNil)) (dC (.int 2))))) (sAsg (dBM "list" mPopAt (dVar 0) (dCons (dC (.int 2)) dNil)) (gS (dVar 0) (dC (.int 1)) dSetL)) sNext)
  (sSeq (sIf (dTest (dOp dGt (dOp dIx (dVar 0) (dC (.int 1))) (dC (.int 0)))) (sSeq (sAsg (dOp dMod (dOp dIx (dVar 0) (dC (.int 1))) (dVar 1)) (gN 2))
  (sSeq (sAsg (dOp dFdiv (dOp dIx (dVar 0) (dC (.int 1))) (dVar 1)) (gS (dVar 0) (dC (.int 1)) dSetL))
  (sRet (dVar 2)))) sNext)
  (sSeq (sAsg (dOp dMod (dOp dAdd (dOp dMul (dOp dIx (dVar 0) (dC (.int 0))) (dC (.int 48271))) (dC (.int 11))) (dC (.int 2147483647))) (gS (dVar 0) (dC (.int 0)) dSetL))
  (sRet (dOp dMod (dOp dFdiv (dOp dIx (dVar 0) (dC (.int 0))) (dC (.int 64))) (dVar 1))))))
abbrev N__law_off : List Str := ["_law_d", "_law_most", "_law_found"]
def b__law_dice : DSt :=
  (sSeq (sAsg (dVar 1) (gN 2))
  (sSeq (sFor (iSq (dVar 0)) (gN 3) (sAsg (dOp dMod (dOp dAdd (dOp dMul (dVar 2) (dC (.int 31))) (dCB dAbs (dCons (dVar 3) dNil))) (dC (.int 2147483647))) (gN 2)))
  (sRet (dOp dAdd (dLst (dCons (dVar 2) (dCons (dC (.int 0)) dNil))) (dLc (iSq (dVar 0)) (gN 3) (dTest (dOp dGe (dVar 3) (dOp dPow (dC (.int 10)) (dC (.int 18))))) (dVar 3) [3])))))
abbrev N__law_dice : List Str := ["_law_script", "_law_k", "_law_found", "_law_cell"]
def b__law_alike (k : Nat) : DSt :=
  (sSeq (sIf (dTest (dOp dIsN (dVar 1) (dC .non))) (sRet (dOp dIsN (dVar 0) (dC .non))) sNext)
  (sSeq (sIf (dTest (dCB dIsi (dCons (dVar 1) (dCons (dC (.ty "bool")) dNil)))) (sRet (dAndV (dCB dIsi (dCons (dVar 0) (dCons (dC (.ty "bool")) dNil))) (dOp dEq (dVar 0) (dVar 1)))) sNext)
  (sSeq (sIf (dTest (dCB dIsi (dCons (dVar 1) (dCons (dC (.ty "int")) dNil)))) (sRet (dAndV (dCB dIsi (dCons (dVar 0) (dCons (dC (.ty "int")) dNil))) (dAndV (dNotV (dCB dIsi (dCons (dVar 0) (dCons (dC (.ty "bool")) dNil)))) (dOp dEq (dVar 0) (dVar 1))))) sNext)
  (sSeq (sIf (dTest (dCB dIsi (dCons (dVar 1) (dCons (dC (.ty "str")) dNil)))) (sRet (dAndV (dCB dIsi (dCons (dVar 0) (dCons (dC (.ty "str")) dNil))) (dOp dEq (dVar 0) (dVar 1)))) sNext)
  (sSeq (sIf (dOr (dTest (dOp dNe (dCB dIsi (dCons (dVar 1) (dCons (dC (.ty "tuple")) dNil))) (dCB dIsi (dCons (dVar 0) (dCons (dC (.ty "tuple")) dNil))))) (dTest (dOp dNe (dCB dIsi (dCons (dVar 1) (dCons (dC (.ty "list")) dNil))) (dCB dIsi (dCons (dVar 0) (dCons (dC (.ty "list")) dNil)))))) (sRet (dC (.bl false))) sNext)
  (sSeq (sIf (dTest (dOp dNe (dCB dLen (dCons (dVar 0) dNil)) (dCB dLen (dCons (dVar 1) dNil)))) (sRet (dC (.bl false))) sNext)
  (sRet (dCB dAll (dCons (dLc (iRange1 (dCB dLen (dCons (dVar 1) dNil))) (gN 2) dYes (dCall (sd__law_alike k) (dCons (dOp dIx (dVar 0) (dVar 2)) (dCons (dOp dIx (dVar 1) (dVar 2)) dNil))) [2]) dNil)))))))))
abbrev N__law_alike : List Str := ["_law_found", "_law_due", "_law_k"]
end Cc
namespace Cc
open PySem PySem.Spec PyProof.Rows L2
theorem dEq_int {i j : Int} {G : DH} {R : DK} : dEq (.int i) (.int j) G R = R (.bl (decide (i = j))) G := rfl
theorem dNe_int {i j : Int} {G : DH} {R : DK} : dNe (.int i) (.int j) G R = R (.bl (!decide (i = j))) G := rfl
theorem blD_bl {R : Bool → DH → Prop} {c : Bool} {G : DH} : blD R (.bl c) G = R c G := rfl
local macro_rules | `(tactic| walk_at "rd") => `(tactic| try simp only [sSeq, sIf, sAsg, sRet, sRetN, sDrop, sNext, gN, dTest, dAnd, dOr, dNot, dAndV, dOrV, dNotV, dIf, dOp, dUn, dVar, dC, dCons, dNil, dCB, dTup, dLst, blD_bl, dEq_int, dNe_int, dLt, dLe, dGt, dGe, dMod, dFdiv, dIsN, dNotN, D.isN, dAbs, List.getElem?_cons_zero, List.getElem?_cons_succ, List.set_cons_zero, List.set_cons_succ, decide_eq_true_eq, if_true, if_false, Bool.false_eq_true, ite_true, ite_false])
theorem ix_at {G : DH} {a : Addr} {l : List D} {i : Int} {d : D} {R : DK} (h : G a = some (.lst l)) (e : L2.atI l i = some d) (q : R d G) : dIx (.ref a) (.int i) G R := by
  have e1 : itemOf G (.ref a) (.int i) = some d := by
    unfold itemOf
    dsimp only
    rw [h]
    exact e
  unfold dIx
  rw [e1]
  exact q
theorem atI_0 {α : Type} {x : α} {xs : List α} : L2.atI (x :: xs) 0 = some x := by
  unfold L2.atI L2.ixN
  simp
theorem atI_1 {α : Type} {x y : α} {xs : List α} : L2.atI (x :: y :: xs) 1 = some y := by
  unfold L2.atI L2.ixN
  rw [if_pos (by omega), if_pos (by rw [List.length_cons, List.length_cons]; omega)]
  rfl
theorem seq_cut {t u : DSt} {Dn : DEnds} {δ : DS} {G : DH} (Post : DS → DH → Prop) (h1 : ∀ N : DS → DH → Prop, (∀ δ' G', Post δ' G' → N δ' G') → t { Dn with nx := N } δ G) (h2 : ∀ δ' G', Post δ' G' → u Dn δ' G') : sSeq t u Dn δ G := h1 _ h2
theorem ixN_0 {n : Nat} : L2.ixN (n + 1) 0 = some 0 := by
  unfold L2.ixN
  rw [if_pos (by omega), if_pos (by omega)]
  rfl
theorem ixN_1 {n : Nat} : L2.ixN (n + 1 + 1) 1 = some 1 := by
  unfold L2.ixN
  rw [if_pos (by omega), if_pos (by omega)]
  rfl
theorem pure_off (ds : List D) (G : DH) (R : DK) (EX : DX) (h : sd__law_off ds G R EX) : b__law_off (endsD R EX) (startD N__law_off ds) G := by
  obtain ⟨a, m, l, rfl, hG, ⟨x, y, zs, rfl⟩, m0, m1, q⟩ := h
  show b__law_off (endsD R EX) [some (.ref a), some (.int m), none] G
  unfold b__law_off
  refine seq_cut (fun δ' G' => δ' = [some (.ref a), some (.int m), none] ∧ ∃ (y : Int) (zs : List Int), G' a = some (.lst (.int x :: .int y :: zs.map D.int)) ∧ ∀ c, updD G' a c = updD G a c) (fun N hN => ?_) ?_
  · walk_at "rd"
    refine ix_at hG atI_1 ?_
    walk_at "rd"
    have same : N [some (.ref a), some (.int m), none] G := hN _ _ ⟨rfl, y, zs, hG, fun c => rfl⟩
    by_cases hy : y = 0
    · subst hy
      rw [if_pos rfl]
      simp only [dLen, lenOf, hG]
      walk_at "rd"
      cases zs with
      | nil =>
        rw [if_neg (by simp)]
        exact same
      | cons z zs =>
        rw [if_pos (by simp; omega)]
        simp only [dBM, tyR]
        walk_at "rd"
        simp only [hG]
        refine ⟨trivial, _, 2, .int z, hG, by omega, by omega, by simp [seqIndex?]; omega, rfl, ?_⟩
        simp only [gS, dSetL, setF]
        walk_at "rd"
        simp only [updD_same]
        refine ⟨1, ixN_1, ?_⟩
        rw [updD_updD]
        exact hN _ _ ⟨rfl, z, zs, updD_same, fun c => updD_updD⟩
    · rw [if_neg hy]
      exact same
  · rintro δ' G' ⟨rfl, y, zs, hA, hU⟩
    walk_at "rd"
    refine ix_at hA atI_1 ?_
    walk_at "rd"
    by_cases hy : 0 < y
    · rw [if_pos hy]
      refine ix_at hA atI_1 ⟨m0, ?_⟩
      refine ix_at hA atI_1 ?_
      walk_at "rd"
      refine ⟨⟨m0, m1⟩, ?_⟩
      simp only [gS, dSetL, setF]
      walk_at "rd"
      simp only [hA]
      refine ⟨1, ixN_1, ?_⟩
      rw [hU]
      exact q _ _ (Int.emod_nonneg _ (by omega)) (Int.emod_lt_of_pos _ m0) ⟨_, _, zs, rfl⟩
    · rw [if_neg hy]
      refine ix_at hA atI_0 ?_
      simp only [dMul, dAdd]
      refine ⟨Or.inr (by omega), by omega, ?_⟩
      simp only [gS, dSetL, setF]
      walk_at "rd"
      simp only [hA]
      refine ⟨0, ixN_0, ?_⟩
      refine ix_at updD_same atI_0 ?_
      walk_at "rd"
      refine ⟨by unfold CDiv; omega, m0, ?_⟩
      rw [hU]
      exact q _ _ (Int.emod_nonneg _ (by omega)) (Int.emod_lt_of_pos _ m0) ⟨_, _, zs, rfl⟩
theorem Sub.updD {G G' : DH} (s : Sub G G') {a : Addr} {c : C} : Sub (updD G a c) (updD G' a c) := fun b u e => by
  by_cases hb : b = a
  · subst hb
    rw [updD_same] at e ⊢
    exact e
  · rw [updD_ne hb] at e ⊢
    exact s b u e
theorem Sub.up {G G' : DH} (s : Sub G G') {a : Addr} {c : C} (h : G a = none) (h' : G' a = some c) : Sub (Cc.updD G a c) G' := fun b u e => by
  by_cases hb : b = a
  · subst hb
    rw [updD_same] at e
    rw [h']
    exact e
  · rw [updD_ne hb] at e
    exact s b u e
theorem none_up {G : DH} {a b : Addr} {c : C} (h : updD G a c b = none) : G b = none ∧ b ≠ a := by
  by_cases hb : b = a
  · subst hb
    rw [updD_same] at h
    cases h
  · rw [updD_ne hb] at h
    exact ⟨h, hb⟩
theorem seqI_new {G : DH} {x : D} {ns : List Int} {p : Addr} {c : C} (h : seqI G x ns) (n : G p = none) : seqI (updD G p c) x ns := by
  rcases h with h | ⟨a, h, e⟩
  · exact .inl h
  · exact .inr ⟨a, h, Sub.new n _ _ e⟩
theorem iSq_I {i : Nat} {δ : DS} {G : DH} {RR : List D → (DH → Prop) → DH → Prop} {EX : DX} {x : D} {ns : List Int} (hx : δ[i]? = some (some x)) (h : seqI G x ns) (q : ∀ ok : DH → Prop, (∀ G', seqI G' x ns → ok G') → RR (ns.map D.int) ok G) : iSq (dVar i) δ G RR EX := by
  unfold iSq dVar
  rw [hx]
  rcases h with rfl | ⟨a, rfl, e⟩
  · exact q _ fun G' _ => trivial
  · refine ⟨_, e, q _ fun G' h' => ?_⟩
    rcases h' with h' | ⟨b, h', e'⟩
    · cases h'
    · cases h'
      exact e'
theorem pure_dice (ds : List D) (G : DH) (R : DK) (EX : DX) (h : sd__law_dice ds G R EX) : b__law_dice (endsD (frg R) EX) (startD N__law_dice ds) G := by
  obtain ⟨x, k, ns, rfl, hx, hn, q⟩ := h
  show b__law_dice (endsD (frg R) EX) [some x, some (.int k), none, none] G
  unfold b__law_dice
  refine seq_cut (fun δ' G' => δ' = [some x, some (.int k), some (.int k), none] ∧ G = G') (fun N hN => ?_) ?_
  · walk_at "rd"
    exact hN _ _ ⟨rfl, rfl⟩
  rintro _ _ ⟨rfl, rfl⟩
  refine seq_cut (fun δ' G' => (∃ f o, δ' = [some x, some (.int k), some (.int f), o]) ∧ G = G') (fun N hN => ?_) ?_
  · unfold sFor
    refine iSq_I rfl hx fun ok hok => goFor_by (fun xs δ' G' => (∃ f o, δ' = [some x, some (.int k), some (.int f), o]) ∧ G = G' ∧ ∃ ms : List Int, xs = ms.map D.int) (fun xs δ G' h => hok _ (h.2.1 ▸ hx)) (fun δ G' h => hN _ _ ⟨h.1, h.2.1⟩) (fun y ys δ G' M h hM => ?_) _ _ _ ⟨⟨k, none, rfl⟩, rfl, ns, rfl⟩
    obtain ⟨⟨f, o, rfl⟩, rfl, ms, e⟩ := h
    cases ms with
    | nil => cases e
    | cons m ms =>
      cases e
      walk_at "rd"
      simp only [dMul, dAdd]
      walk_at "rd"
      exact ⟨Or.inr (by omega), by omega, hM _ _ ⟨⟨_, _, rfl⟩, rfl, ms, rfl⟩⟩
  rintro _ _ ⟨⟨f, o, rfl⟩, rfl⟩
  walk_at "rd"
  refine ⟨by simp [sizeLine_eq], fun p hp => ?_⟩
  unfold dLc
  refine iSq_I rfl (seqI_new hx hp) fun ok hok => fun p2 hp2 => ?_
  obtain ⟨n2, ne2⟩ := none_up hp2
  refine goLc_map (fun y => match y with
    | .int c => if (10 : Int) ^ 18 ≤ c then some (.int c) else none
    | _ => none) _ (by rw [List.length_map, sizeLine_eq]; omega) (fun acc => hok _ (seqI_new (seqI_new hx hp) hp2)) ?_ fun y hy acc N hacc hN => ?_
  · have e : ∀ ns : List Int, ((ns.map D.int).filterMap fun y => match y with
      | .int c => if (10 : Int) ^ 18 ≤ c then some (D.int c) else none
      | _ => none) = (ns.filter fun c => decide ((10 : Int) ^ 18 ≤ c)).map D.int := fun ns => by
      induction ns with
      | nil => rfl
      | cons n ns ih =>
        rw [List.map_cons, List.filterMap_cons, List.filter_cons, ih]
        by_cases h : (10 : Int) ^ 18 ≤ n
        · simp only [h, if_true, decide_true, List.map_cons]
        · simp only [h, if_false, decide_false, Bool.false_eq_true]
    rw [e]
    unfold dAdd
    refine ⟨[.int f, .int 0], (ns.filter fun c => decide ((10 : Int) ^ 18 ≤ c)).map D.int, by rw [updD_ne (Ne.symm ne2)]; exact updD_same, updD_same, ?_, fun n hn => ?_⟩
    · have := List.length_filter_le (fun c => decide ((10 : Int) ^ 18 ≤ c)) ns
      rw [List.length_map, sizeLine_eq]
      simp only [List.length_cons, List.length_nil]
      omega
    · obtain ⟨h1, _⟩ := none_up hn
      obtain ⟨h2, _⟩ := none_up h1
      exact ⟨_, ((Sub.new hp).trans (Sub.new hp2)).updD, q n _ h2 ⟨f, 0, _, rfl⟩⟩
  · obtain ⟨m, hm, rfl⟩ := List.mem_map.mp hy
    simp only [wipeD]
    walk_at "rd"
    simp only [dPow, dGe]
    refine ⟨by unfold CPow; decide, ?_⟩
    have e18 : (18 : Int).toNat = 18 := rfl
    rw [e18] at *
    by_cases h : (10 : Int) ^ 18 ≤ m
    · rw [if_pos h]
      simp only [h, if_true] at hN
      exact ⟨acc, updD_same, hacc, by rw [updD_updD]; exact hN⟩
    · rw [if_neg h]
      simp only [h, if_false] at hN
      exact hN
end Cc
namespace Cc
open PySem PySem.Spec PyProof.Rows L2
local macro_rules | `(tactic| walk_at "rd") => `(tactic| try simp only [sSeq, sIf, sAsg, sRet, sRetN, sDrop, sNext, gN, dTest, dAnd, dOr, dNot, dAndV, dOrV, dNotV, dIf, dOp, dUn, dVar, dC, dCons, dNil, dCB, dTup, dLst, blD_bl, dEq_int, dNe_int, dLt, dLe, dGt, dGe, dMod, dFdiv, dIsN, dNotN, D.isN, dAbs, List.getElem?_cons_zero, List.getElem?_cons_succ, List.set_cons_zero, List.set_cons_succ, decide_eq_true_eq, if_true, if_false, Bool.false_eq_true, ite_true, ite_false])
theorem isi_ty {G : DH} {x : D} {t T : String} {b : Bool} {R : DK} (h : tyD G x = some t) (e : kitB t T = some b) (q : R (.bl b) G) : dIsi [x, .ty T] G R := by
  have z : (match tyD G x with
    | some t => (match kitB t T with
      | some b => R (.bl b) G
      | none => False)
    | none => False) := by
    rw [h]
    dsimp only
    rw [e]
    exact q
  exact z
theorem tyD_tl {G : DH} {x : D} {l : List D} (e : x.tl = some l) : tyD G x = some "tuple" := by
  cases x <;> first | rfl | cases e
theorem seq_tl {G : DH} {x : D} {l : List D} (e : x.tl = some l) : seqOf G x = some l := by
  cases x <;> first | exact e | cases e
theorem isN_tl {x : D} {l : List D} (e : x.tl = some l) : x.isN = false := by
  cases x <;> first | rfl | cases e
theorem len_seq {G : DH} {x : D} {l : List D} (e : seqOf G x = some l) : lenOf G x = some l.length := by
  unfold seqOf at e
  split at e
  · rename_i a
    unfold lenOf
    dsimp only
    split at e
    · rename_i l' ea
      cases e
      rw [ea]
    · cases e
  · cases e
    rfl
  · rename_i h1 h2
    have e2 : seqOf G x = some l := seq_tl e
    unfold lenOf
    split
    · cases e
    · exact absurd rfl (h1 _)
    · rw [e2]
      rfl
theorem item_seq {G : DH} {x : D} {l : List D} {i : Int} (e : seqOf G x = some l) : itemOf G x (.int i) = L2.atI l i := by
  unfold seqOf at e
  split at e
  · rename_i a
    unfold itemOf
    dsimp only
    split at e
    · rename_i l' ea
      cases e
      rw [ea]
    · cases e
  · cases e
    rfl
  · rename_i h1 h2
    cases x <;> first | (cases e; rfl) | cases e
theorem ix_seqd {G : DH} {x : D} {l : List D} {i : Int} {d : D} {R : DK} (e : seqOf G x = some l) (h : L2.atI l i = some d) (q : R d G) : dIx x (.int i) G R := by
  have e1 : itemOf G x (.int i) = some d := (item_seq e).trans h
  unfold dIx
  rw [e1]
  exact q
theorem atI_nat {α : Type} {l : List α} {i : Nat} {x : α} (h : l[i]? = some x) : L2.atI l (i : Int) = some x := by
  have hl := (List.getElem?_eq_some_iff.mp h).1
  unfold L2.atI L2.ixN
  rw [if_pos (by omega), if_pos (by omega)]
  exact h
mutual
theorem Rdd.sub {G G' : DH} (s : Sub G G') : ∀ {d : D} {t : PyData}, Rdd G d t → Rdd G' d t
  | _, _, .non => .non
  | _, _, .bl b => .bl b
  | _, _, .int i => .int i
  | _, _, .str x => .str x
  | _, _, .tup e r => .tup e (RddL.sub s r)
  | _, _, .rol r => .rol (RddL.sub s r)
  | _, _, .lst e r => .lst (s _ _ e) (RddL.sub s r)
theorem RddL.sub {G G' : DH} (s : Sub G G') : ∀ {d : List D} {t : List PyData}, RddL G d t → RddL G' d t
  | _, _, .nil => .nil
  | _, _, .cons h r => .cons (Rdd.sub s h) (RddL.sub s r)
end
theorem RddL.get {G : DH} : ∀ {l : List D} {ts : List PyData} {i : Nat}, RddL G l ts → i < ts.length → ∃ d t, l[i]? = some d ∧ ts[i]? = some t ∧ Rdd G d t
  | _, _, _, .nil, h => by simp at h
  | _, _, 0, .cons h _, _ => ⟨_, _, rfl, rfl, h⟩
  | _, _, i + 1, .cons _ r, h => by
    obtain ⟨d, t, a, b, c⟩ := RddL.get (i := i) r (by simpa using h)
    exact ⟨d, t, by simpa using a, by simpa using b, c⟩
theorem depth_at : ∀ {ts : List PyData} {i : Nat} {t : PyData}, ts[i]? = some t → t.depth ≤ PyData.depthAll ts
  | [], _, _, e => by simp at e
  | x :: xs, 0, t, e => by
    simp at e
    subst e
    rw [PyData.depthAll]
    omega
  | x :: xs, i + 1, t, e => by
    have := depth_at (ts := xs) (i := i) (by simpa using e)
    rw [PyData.depthAll]
    omega
theorem lean_at : ∀ {ts : List PyData} {i : Nat} {t : PyData}, ts[i]? = some t → leanAll ts = true → lean t = true
  | [], _, _, e, _ => by simp at e
  | x :: xs, 0, t, e, h => by
    simp at e
    subst e
    rw [leanAll] at h
    exact (Bool.and_eq_true_iff.mp h).1
  | x :: xs, i + 1, t, e, h => by
    rw [leanAll] at h
    exact lean_at (ts := xs) (i := i) (by simpa using e) (Bool.and_eq_true_iff.mp h).2
theorem Rdd.ty {G : DH} {x : D} {t : PyData} : Rdd G x t → tyD G x = some (match t with
  | .none => "NoneType"
  | .bool _ => "bool"
  | .int _ => "int"
  | .str _ => "str"
  | .tuple _ => "tuple"
  | .list _ => "list"
  | .dict _ => "dict") := fun h => by
  cases h with
  | tup e r => exact tyD_tl e
  | lst e r =>
    unfold tyD
    dsimp only
    rw [e]
  | _ => rfl
theorem Rdd.nonN {G : DH} {x : D} {t : PyData} (h : Rdd G x t) (n : t ≠ .none) : x.isN = false := by
  cases h with
  | non => exact absurd rfl n
  | tup e r => exact isN_tl e
  | _ => rfl
theorem rangeD_len {lo : Int} {n : Nat} : (rangeD lo n).length = n := by unfold rangeD; rw [List.length_map, List.length_range]
theorem pure_seq {G : DH} {k : Nat} {x y : D} {lx ly : List D} {ts : List PyData} {R : DK} {EX : DX} (sx : seqOf G x = some lx) (sy : seqOf G y = some ly) (rx : RddL G lx ts) (ry : RddL G ly ts) (hd : PyData.depthAll ts + 1 ≤ k) (hl : ts.length ≤ 100000) (hla : leanAll ts = true) (q : R (.bl true) G) (δ : DS) (h0 : δ[0]? = some (some x)) (h1 : δ[1]? = some (some y)) (h3 : δ.length = 3) (up : ∀ G', Sub G G' → seqOf G' x = some lx ∧ seqOf G' y = some ly) :
    sRet (dCB dAll (dCons (dLc (iRange1 (dCB dLen (dCons (dVar 1) dNil))) (gN 2) dYes (dCall (sd__law_alike k) (dCons (dOp dIx (dVar 0) (dVar 2)) (dCons (dOp dIx (dVar 1) (dVar 2)) dNil))) [2]) dNil)) (endsD (frg R) EX) δ G := by
  have ex : lx.length = ts.length := rx.len
  have ey : ly.length = ts.length := ry.len
  obtain ⟨o0, o1, o2, rfl⟩ : ∃ o0 o1 o2, δ = [o0, o1, o2] := by
    match δ, h3 with
    | [a, b, c], _ => exact ⟨a, b, c, rfl⟩
  cases h0
  cases h1
  walk_at "rd"
  simp only [dLc, iRange1]
  walk_at "rd"
  simp only [dLen, len_seq sy]
  refine ⟨⟨by omega, by omega⟩, fun p hp => ?_⟩
  have eN : ((ly.length : Nat) : Int).toNat = ts.length := by omega
  rw [eN]
  refine goLc_map (fun _ => some (.bl true)) _ (by rw [rangeD_len, sizeLine_eq]; omega) (fun _ => trivial) ?_ fun z hz acc N hacc hN => ?_
  · have e : (rangeD 0 ts.length).filterMap (fun _ => some (D.bl true)) = (List.replicate ts.length true).map D.bl := by
      rw [List.map_replicate]
      unfold rangeD
      rw [List.filterMap_map]
      have : ∀ l : List Nat, l.filterMap ((fun _ => some (D.bl true)) ∘ fun i : Nat => D.int (0 + (i : Nat))) = List.replicate l.length (D.bl true) := fun l => by
        induction l with
        | nil => rfl
        | cons a l ih =>
          rw [List.filterMap_cons, ih]
          rfl
      rw [this, List.length_range]
    rw [e]
    refine ⟨_, updD_same, ?_⟩
    have e2 : (List.replicate ts.length true).all id = true := by
      rw [List.all_eq_true]
      intro b hb
      rw [(List.mem_replicate.mp hb).2]
      rfl
    rw [e2]
    exact ⟨G, Sub.new hp, q⟩
  · unfold rangeD at hz
    obtain ⟨i, hi, rfl⟩ := List.mem_map.mp hz
    have hi := List.mem_range.mp hi
    obtain ⟨dx, t, a1, a2, a3⟩ := rx.get hi
    obtain ⟨dy, t', b1, b2, b3⟩ := ry.get hi
    rw [a2] at b2
    cases b2
    have sG : Sub G (updD G p (.lst acc)) := Sub.new hp
    obtain ⟨u1, u2⟩ := up _ sG
    simp only [wipeD, dYes, dCall]
    walk_at "rd"
    rw [Int.zero_add]
    refine ix_seqd u1 (atI_nat a1) ?_
    refine ix_seqd u2 (atI_nat b1) ?_
    have dt := depth_at a2
    obtain ⟨j, rfl⟩ : ∃ j, k = j + 1 := ⟨k - 1, by omega⟩
    exact ⟨dx, dy, t, rfl, a3.sub sG, b3.sub sG, by omega, lean_at a2 hla, acc, updD_same, hacc, by rw [updD_updD]; exact hN⟩
theorem if_skip {c : DT} {A u : DSt} {Dn : DEnds} {δ : DS} {G : DH} (h : ∀ R' : Bool → DH → Prop, R' false G → c δ G R' Dn.ex) (h2 : u Dn δ G) : sSeq (sIf c A sNext) u Dn δ G := h _ h2
theorem if_take {c : DT} {A B u : DSt} {Dn : DEnds} {δ : DS} {G : DH} (h : ∀ R' : Bool → DH → Prop, R' true G → c δ G R' Dn.ex) (h2 : A { Dn with nx := u Dn } δ G) : sSeq (sIf c A B) u Dn δ G := h _ h2
theorem tst_isi {i : Nat} {x : D} {δ : DS} {G : DH} {t T : String} {b : Bool} {R : Bool → DH → Prop} {EX : DX} (hx : δ[i]? = some (some x)) (h : tyD G x = some t) (e : kitB t T = some b) (q : R b G) : dTest (dCB dIsi (dCons (dVar i) (dCons (dC (.ty T)) dNil))) δ G R EX := by
  simp only [dTest, dCB, dCons, dVar, hx, dC, dNil]
  exact isi_ty h e q
theorem val_isi {i : Nat} {x : D} {δ : DS} {G : DH} {t T : String} {b : Bool} {R : DK} {EX : DX} (hx : δ[i]? = some (some x)) (h : tyD G x = some t) (e : kitB t T = some b) (q : R (.bl b) G) : dCB dIsi (dCons (dVar i) (dCons (dC (.ty T)) dNil)) δ G R EX := by
  simp only [dCB, dCons, dVar, hx, dC, dNil]
  exact isi_ty h e q
theorem dNe_bl {b c : Bool} {G : DH} {R : DK} : dNe (.bl b) (.bl c) G R = R (.bl (!decide (b = c))) G := rfl
theorem dEq_bl {b c : Bool} {G : DH} {R : DK} : dEq (.bl b) (.bl c) G R = R (.bl (decide (b = c))) G := rfl
theorem dEq_str {b c : Str} {G : DH} {R : DK} : dEq (.str b) (.str c) G R = R (.bl (decide (b = c))) G := rfl
theorem ne_isi {x y : D} {G : DH} {t T : String} {b : Bool} {R : Bool → DH → Prop} {EX : DX} {o : Option D} (hx : tyD G x = some t) (hy : tyD G y = some t) (e : kitB t T = some b) (q : R false G) : dTest (dOp dNe (dCB dIsi (dCons (dVar 1) (dCons (dC (.ty T)) dNil))) (dCB dIsi (dCons (dVar 0) (dCons (dC (.ty T)) dNil)))) [some x, some y, o] G R EX := by
  simp only [dTest, dOp]
  refine val_isi rfl hy e ?_
  refine val_isi rfl hx e ?_
  rw [dNe_bl, blD_bl, decide_eq_true rfl]
  exact q
theorem ne_len {x y : D} {G : DH} {lx ly : List D} {R : Bool → DH → Prop} {EX : DX} {o : Option D} (hx : seqOf G x = some lx) (hy : seqOf G y = some ly) (e : lx.length = ly.length) (q : R false G) : dTest (dOp dNe (dCB dLen (dCons (dVar 0) dNil)) (dCB dLen (dCons (dVar 1) dNil))) [some x, some y, o] G R EX := by
  simp only [dTest, dOp, dCB, dCons, dNil, dVar, List.getElem?_cons_zero, List.getElem?_cons_succ, dLen, len_seq hx, len_seq hy, dNe_int, blD_bl, e, decide_true, Bool.not_true]
  exact q
theorem pure_alike (k : Nat) (ds : List D) (G : DH) (R : DK) (EX : DX) (h : sd__law_alike (k + 1) ds G R EX) : b__law_alike k (endsD (frg R) EX) (startD N__law_alike ds) G := by
  obtain ⟨x, y, t, rfl, rx, ry, hd, hl, q⟩ := h
  show b__law_alike k (endsD (frg R) EX) [some x, some y, none] G
  have tx := rx.ty
  have ty := ry.ty
  have q' : frg R (.bl true) G := frg_of q
  have skN : t ≠ .none → ∀ {u A : DSt}, u (endsD (frg R) EX) [some x, some y, none] G → sSeq (sIf (dTest (dOp dIsN (dVar 1) (dC .non))) A sNext) u (endsD (frg R) EX) [some x, some y, none] G := fun n u A h => if_skip (fun R' h' => by
    simp only [dTest, dOp, dVar, List.getElem?_cons_zero, List.getElem?_cons_succ, dC, dIsN, ry.nonN n, blD_bl]
    exact h') h
  have sk : ∀ {T tt : String}, tyD G y = some tt → kitB tt T = some false → ∀ {u A : DSt}, u (endsD (frg R) EX) [some x, some y, none] G → sSeq (sIf (dTest (dCB dIsi (dCons (dVar 1) (dCons (dC (.ty T)) dNil)))) A sNext) u (endsD (frg R) EX) [some x, some y, none] G := fun h e u A h2 => if_skip (fun R' h' => tst_isi rfl h e h') h2
  have tk : ∀ {T tt : String}, tyD G y = some tt → kitB tt T = some true → ∀ {u A : DSt}, A { endsD (frg R) EX with nx := u (endsD (frg R) EX) } [some x, some y, none] G → sSeq (sIf (dTest (dCB dIsi (dCons (dVar 1) (dCons (dC (.ty T)) dNil)))) A sNext) u (endsD (frg R) EX) [some x, some y, none] G := fun h e u A h2 => if_take (fun R' h' => tst_isi rfl h e h') h2
  unfold b__law_alike
  cases t with
  | none =>
    cases rx
    cases ry
    refine if_take (fun R' h' => h') ?_
    exact q'
  | bool b =>
    dsimp only at tx ty
    refine skN (by intro h; cases h) (tk ty (by decide +kernel) ?_)
    unfold sRet dAndV
    refine val_isi rfl tx (b := true) (by decide +kernel) ?_
    rw [blD_bl, if_pos rfl]
    cases rx
    cases ry
    simp only [dOp, dVar, List.getElem?_cons_zero, List.getElem?_cons_succ, dEq_bl, decide_true]
    exact q'
  | int i =>
    dsimp only at tx ty
    refine skN (by intro h; cases h) (sk ty (by decide +kernel) (tk ty (by decide +kernel) ?_))
    unfold sRet dAndV
    refine val_isi rfl tx (b := true) (by decide +kernel) ?_
    rw [blD_bl, if_pos rfl]
    unfold dNotV
    refine val_isi rfl tx (b := false) (by decide +kernel) ?_
    rw [blD_bl, blD_bl, Bool.not_false, if_pos rfl]
    cases rx
    cases ry
    simp only [dOp, dVar, List.getElem?_cons_zero, List.getElem?_cons_succ, dEq_int, decide_true]
    exact q'
  | str z =>
    dsimp only at tx ty
    refine skN (by intro h; cases h) (sk ty (by decide +kernel) (sk ty (by decide +kernel) (tk ty (by decide +kernel) ?_)))
    unfold sRet dAndV
    refine val_isi rfl tx (b := true) (by decide +kernel) ?_
    rw [blD_bl, if_pos rfl]
    cases rx
    cases ry
    simp only [dOp, dVar, List.getElem?_cons_zero, List.getElem?_cons_succ, dEq_str, decide_true]
    exact q'
  | tuple ts =>
    dsimp only at tx ty
    cases rx with
    | tup ex rx =>
      cases ry with
      | tup ey ry =>
        refine skN (by intro h; cases h) (sk ty (by decide +kernel) (sk ty (by decide +kernel) (sk ty (by decide +kernel) (if_skip (fun R' h' => ?_) (if_skip (fun R' h' => ?_) ?_)))))
        · unfold dOr
          refine ne_isi tx ty (b := true) (by decide +kernel) ?_
          rw [if_neg Bool.false_ne_true]
          exact ne_isi tx ty (b := false) (by decide +kernel) h'
        · exact ne_len (seq_tl ex) (seq_tl ey) (rx.len.trans ry.len.symm) h'
        · exact pure_seq (seq_tl ex) (seq_tl ey) rx ry (by rw [PyData.depth] at hd; exact hd) (by rw [lean] at hl; exact of_decide_eq_true (Bool.and_eq_true_iff.mp hl).1) (by rw [lean] at hl; exact (Bool.and_eq_true_iff.mp hl).2) q [some x, some y, none] rfl rfl rfl (fun G' s => ⟨seq_tl ex, seq_tl ey⟩)
  | list ts =>
    dsimp only at tx ty
    have hs : ∀ {z : D}, Rdd G z (.list ts) → ∃ l, seqOf G z = some l ∧ RddL G l ts ∧ ∀ G', Sub G G' → seqOf G' z = some l := fun {z} h => by
      cases h with
      | rol r => exact ⟨_, rfl, r, fun _ _ => rfl⟩
      | lst e r =>
        refine ⟨_, ?_, r, fun G' s => ?_⟩
        · unfold seqOf
          dsimp only
          rw [e]
        · unfold seqOf
          dsimp only
          rw [s _ _ e]
    obtain ⟨lx, ex, rx', ux⟩ := hs rx
    obtain ⟨ly, ey, ry', uy⟩ := hs ry
    refine skN (by intro h; cases h) (sk ty (by decide +kernel) (sk ty (by decide +kernel) (sk ty (by decide +kernel) (if_skip (fun R' h' => ?_) (if_skip (fun R' h' => ?_) ?_)))))
    · unfold dOr
      refine ne_isi tx ty (b := false) (by decide +kernel) ?_
      rw [if_neg Bool.false_ne_true]
      exact ne_isi tx ty (b := true) (by decide +kernel) h'
    · exact ne_len ex ey (rx'.len.trans ry'.len.symm) h'
    · exact pure_seq ex ey rx' ry' (by rw [PyData.depth] at hd; exact hd) (by rw [lean] at hl; exact of_decide_eq_true (Bool.and_eq_true_iff.mp hl).1) (by rw [lean] at hl; exact (Bool.and_eq_true_iff.mp hl).2) q [some x, some y, none] rfl rfl rfl (fun G' s => ⟨ux G' s, uy G' s⟩)
  | dict _ => cases rx
end Cc
/-! ### small facts of readings -/
namespace Cc
open PySem PySem.Spec PyProof.Rows L2
open PySem.W (EachIs AllAlike Sortable dataLe)
theorem sub_put {G G' : DH} {a : Addr} {c : C} (s : Sub G G') (h : G a = none) : Sub G (Cc.updD G' a c) := fun b u e => by
  have ne : b ≠ a := fun z => by subst z; rw [h] at e; cases e
  rw [updD_ne ne]
  exact s b u e
theorem Sub.fresh {G G' : DH} {a : Addr} (s : Sub G G') (h : G' a = none) : G a = none := by
  cases e : G a with
  | none => rfl
  | some c =>
    rw [s _ _ e] at h
    cases h
theorem keep_upd {G : DH} {a b : Addr} {c u : C} (h : G b = some u) (n : G a = none) : updD G a c b = some u := Sub.new n _ _ h
theorem iSq_cell {i : Nat} {δ : DS} {G : DH} {RR : List D → (DH → Prop) → DH → Prop} {EX : DX} {a : Addr} {l : List D} (hx : δ[i]? = some (some (.ref a))) (e : G a = some (.lst l)) (q : RR l (fun G => G a = some (.lst l)) G) : iSq (dVar i) δ G RR EX := by
  unfold iSq dVar
  rw [hx]
  exact ⟨l, e, q⟩
theorem each_app {α β : Type} {P : α → β → Prop} : ∀ {as as' : List α} {bs bs' : List β}, EachIs P as bs → EachIs P as' bs' → EachIs P (as ++ as') (bs ++ bs')
  | _, _, _, _, .nil, h => h
  | _, _, _, _, .cons h t, h' => .cons h (each_app t h')
theorem each_nil {α β : Type} {P : α → β → Prop} {bs : List β} (h : EachIs P [] bs) : bs = [] := by cases h; rfl
theorem each_cons {α β : Type} {P : α → β → Prop} {a : α} {as : List α} {bs : List β} (h : EachIs P (a :: as) bs) : ∃ b bs', bs = b :: bs' ∧ P a b ∧ EachIs P as bs' := by
  cases h with
  | cons h t => exact ⟨_, _, rfl, h, t⟩
theorem each_mem {α β : Type} {P : α → β → Prop} : ∀ {as : List α} {bs : List β}, EachIs P as bs → ∀ a ∈ as, ∃ b ∈ bs, P a b
  | _, _, .nil, _, h => by cases h
  | _, _, .cons h t, a, hm => by
    rcases List.mem_cons.mp hm with rfl | hm
    · exact ⟨_, List.mem_cons_self, h⟩
    · obtain ⟨b, h1, h2⟩ := each_mem t a hm
      exact ⟨b, List.mem_cons_of_mem _ h1, h2⟩
theorem each_map_l {α β γ : Type} {P : γ → β → Prop} {f : α → γ} : ∀ {as : List α} {bs : List β}, EachIs (fun a b => P (f a) b) as bs → EachIs P (as.map f) bs
  | _, _, .nil => .nil
  | _, _, .cons h t => .cons h (each_map_l t)
theorem lay_map {α : Type} {f : α → PyData} : ∀ {l : List α}, (∀ x ∈ l, (f x).canLay0 = true) → PyData.canLayAll0 (l.map f) = true
  | [], _ => by simp [PyData.canLayAll0]
  | x :: xs, h => by
    rw [List.map_cons, PyData.canLayAll0, h x List.mem_cons_self, lay_map fun y hy => h y (List.mem_cons_of_mem _ hy)]
    rfl
theorem dep_map {α : Type} {f : α → PyData} {n : Nat} : ∀ {l : List α}, (∀ x ∈ l, (f x).depth ≤ n) → PyData.depthAll (l.map f) ≤ n
  | [], _ => by simp [PyData.depthAll]
  | x :: xs, h => by
    have h1 := h x List.mem_cons_self
    have h2 := dep_map (f := f) (l := xs) fun y hy => h y (List.mem_cons_of_mem _ hy)
    rw [List.map_cons, PyData.depthAll]
    omega
theorem lean_map {α : Type} {f : α → PyData} : ∀ {l : List α}, (∀ x ∈ l, lean (f x) = true) → leanAll (l.map f) = true
  | [], _ => by simp [leanAll]
  | x :: xs, h => by
    rw [List.map_cons, leanAll, h x List.mem_cons_self, lean_map fun y hy => h y (List.mem_cons_of_mem _ hy)]
    rfl
theorem rdd_map {α : Type} {G : DH} {f : α → D} {g : α → PyData} : ∀ {l : List α}, (∀ x ∈ l, Rdd G (f x) (g x)) → RddL G (l.map f) (l.map g)
  | [], _ => .nil
  | x :: xs, h => .cons (h x List.mem_cons_self) (rdd_map fun y hy => h y (List.mem_cons_of_mem _ hy))
theorem rdd_each {β : Type} {G : DH} {P : D → β → Prop} {g : β → PyData} (h : ∀ a b, P a b → Rdd G a (g b)) : ∀ {as : List D} {bs : List β}, EachIs P as bs → RddL G as (bs.map g)
  | _, _, .nil => .nil
  | _, _, .cons p t => .cons (h _ _ p) (rdd_each h t)
theorem shaped_by {t : PyData} (h : t.canLay0 = true) (d : t.depth ≤ 64) : SeqAt.shaped t = true := by
  unfold SeqAt.shaped
  rw [h, decide_eq_true d]
  rfl
theorem rangeD_zero {lo : Int} : rangeD lo 0 = [] := rfl
theorem rangeD_succ {lo : Int} {n : Nat} : rangeD lo (n + 1) = .int lo :: rangeD (lo + 1) n := by
  unfold rangeD
  rw [List.range_succ_eq_map, List.map_cons, List.map_map]
  congr 1
  · simp
  · refine List.map_congr_left fun i _ => ?_
    show D.int (lo + ((i + 1 : Nat) : Int)) = D.int (lo + 1 + (i : Int))
    congr 1
    omega
theorem sortD_map {α : Type} {f : α → D} {g : α → PyData} (l : List α) : sortD (l.map f) (l.map g) = (l.mergeSort (dataLe false g)).map f := by
  unfold sortD
  have e : (l.map f).zip (l.map g) = l.map fun x => (f x, g x) := by
    rw [List.zip_map']
  rw [e, ← List.map_mergeSort (r := dataLe false g) (s := dataLe false Prod.snd) (f := fun x => (f x, g x)) (l := l) (fun a _ b _ => rfl), List.map_map]
  rfl
theorem lst_of {G : DH} {a : Addr} {l : List D} (h : G a = some (.lst l)) : lstOf G (.ref a) = some l := by
  unfold lstOf
  dsimp only
  rw [h]
/-- sorted(a list of data) -/
theorem sorted_map {α : Type} {f : α → D} {g : α → PyData} {l : List α} {G : DH} {a : Addr} {R : DK} (h : G a = some (.lst (l.map f))) (hr : ∀ x ∈ l, Rdd G (f x) (g x)) (hal : ∀ x y, PySem.W.alike (g x) (g y) = true) (hk : Sortable (l.map g)) (hd : ∀ x ∈ l, (g x).depth ≤ 40) (hl : l.length ≤ sizeLine)
    (q : ∀ p, G p = none → R (.ref p) (updD G p (.lst ((l.mergeSort (dataLe false g)).map f)))) : dSorted [.ref a] G R :=
  ⟨l.map f, l.map g, lst_of h, rdd_map hr, AllAlike.of fun x y => hal x y, hk, fun t ht => by
    obtain ⟨x, hx, rfl⟩ := List.mem_map.mp ht
    exact hd x hx, by rw [List.length_map]; exact hl, fun p hp => by rw [sortD_map]; exact q p hp⟩
theorem atI_mem {α : Type} {l : List α} {i : Int} (h0 : 0 ≤ i) (h1 : i < l.length) : ∃ d ∈ l, L2.atI l i = some d := by
  have hi : i.toNat < l.length := by omega
  refine ⟨l[i.toNat], List.getElem_mem hi, ?_⟩
  unfold L2.atI L2.ixN
  rw [if_pos h0, if_pos h1]
  exact List.getElem?_eq_getElem hi
end Cc
/-! ### the end: facts of the top, the law's promise -/
namespace Cc
open PySem PySem.Spec PyProof.Rows L2
def sdLaw : SpD := fun ds G R _ => ∃ x ns, ds = [x] ∧ seqI G x ns ∧ ns.length ≤ 63 ∧ ∀ G', R (.bl true) G'
theorem dvl_ints {K : KT} {H : Hp} : ∀ ns : List Int, DvL K H (ns.map V.int) (ns.map D.int)
  | [] => .nil
  | n :: ns => .cons (.int n) (dvl_ints ns)
theorem sdLaw_end {K : PySem.W.Frag} {T : List (Addr × Str)} {cs : List (Addr × Addr)} (hT : ∀ p ∈ T, ∃ q ∈ cs, q.2 = p.1) {H : Hp} {a : Addr} {ns : List Int} (hn : ns.length ≤ 63) (hc : ∀ p ∈ cs, H p.2 = some (.tbl #[])) (hs : SqL K H a (ns.map V.int)) :
    upF (K, T) sdLaw [.ref a] H (fun v _ => v = .bl true) fun _ _ _ => False := by
  have tabs : LamX.Tabs T H := fun p hp => by
    obtain ⟨q, hq, e⟩ := hT p hp
    exact LamX.TabS.nil (by rw [← e]; exact hc q hq)
  have key : ∀ (x : D) (G : DH), Dv (K, T) H (.ref a) x → HRel (K, T) G H → seqI G x ns → upF (K, T) sdLaw [.ref a] H (fun v _ => v = .bl true) fun _ _ _ => False := fun x G d hr s =>
    ⟨[x], G, fun d _ => d = .bl true, fun _ _ _ => False, .cons d .nil, hr, ⟨x, ns, rfl, s, hn, fun _ => rfl⟩, fun v H' d G' _ _ r e => by
      subst e
      cases r
      rfl, fun _ _ _ _ _ _ h => h⟩
  rcases hs with (hs | ⟨o, hs⟩) | hs
  · refine key (.ref a) (updD (fun _ => none) a (.lst (ns.map D.int))) (.ref a) ⟨fun b c e => ?_, tabs⟩ (.inr ⟨a, rfl, updD_same⟩)
    by_cases hb : b = a
    · subst hb
      rw [updD_same] at e
      cases e
      exact ⟨_, hs, dvl_ints ns⟩
    · rw [updD_ne hb] at e
      cases e
  · exact key (.rol (ns.map D.int)) (fun _ => none) (.rol (.inl ⟨o, hs⟩) (dvl_ints ns)) ⟨(fun b c e => nomatch e), tabs⟩ (.inl rfl)
  · exact key (.rol (ns.map D.int)) (fun _ => none) (.rol (.inr hs) (dvl_ints ns)) ⟨(fun b c e => nomatch e), tabs⟩ (.inl rfl)
theorem cx_end {P : Program} {w : World} {H : Hp} {s : Shared} {e : Value} {s' : Shared} : L2.CX P w [] H s (fun _ _ _ => False) e s' → False := fun ⟨_, _, _, _, _, _, _, _, _, _, _, _, h⟩ => h
section
variable {P : Program} {w : World} {K : PySem.W.Frag} {T : List (Addr × Str)} {cv : Value → Prop} {mg : Str → Option Value} {base h : Heap} {N ps : List Str} {x : Str} {k : Nat} {sb : DSt} {sd : SpD} {fa : List He.Fa} {fn : List He.DefD} {d : He.DefD}
theorem defAt (c : He.SaysD fa fn K) (hd : d ∈ fn) (h1 : d.dfl = []) (h2 : d.kwd = []) : ∃ fd, FunD K d.name d.qual d.params d.body d.scope [] [] (He.fAd K d.at_) fd ∧ fd.code = .ref (He.codeOf K d.at_) := by
  obtain ⟨fd, F⟩ := c.defs hd
  have e1 : d.dvs K = [] := by unfold He.DefD.dvs; rw [h1]; rfl
  have e2 : d.kws K = [] := by unfold He.DefD.kws; rw [h2]; rfl
  rw [e1, e2] at F
  refine ⟨fd, F, ?_⟩
  obtain ⟨oc, od, dV, kV, doc, pm, an, cdv, ct, osl, rfl, lk, hcd, _, _⟩ := F.ex
  obtain ⟨cc, e⟩ := He.codeIn_ref hcd
  subst e
  rw [He.codeOf_eq lk rfl]
theorem mkFn (X : K.In h) (G : h.Ns mainGlobals mg) (c : He.SaysD fa fn K) (hd : d ∈ fn) (hx : d.at_ = (x, none)) (h1 : d.dfl = []) (h2 : d.kwd = []) (hg : He.Fa.glo x ∈ fa) (S : FnScope N ps d.scope) (hcv : cv (.ref (He.codeOf K (x, none))))
    (len : ∀ ds G R EX, sd ds G R EX → ds.length = ps.length) (B : BodyD P w K T cv mg base N d.qual d.scope d.body k sb) (hp : ∀ ds G R EX, sd ds G R EX → sb (endsD (frg R) EX) (startD N ds) G)
    (hb : ∀ (kV doc pm : Value) (an : Option Addr) (cdv ct : Value) (us : List Value), us.length = ps.length → bindArgs (PySem.W.fnOf d.name d.qual d.params d.body d.scope .none kV doc pm an cdv ct) ⟨us, []⟩ = pure (ps.zip us)) :
    Fn P w (K, T) mg base x (k + 1) ps sd := by
  obtain ⟨fd, F, e⟩ := defAt c hd h1 h2
  rw [hx] at F e
  exact ⟨_, fd, okF F S (by rw [e]; exact hcv) len B hp, He.glo_ok X G (c.facts hg), F.kp, F.bindsN hb⟩
theorem glo_str (X : K.In h) (G : h.Ns mainGlobals mg) {x z : Str} (c : (He.Fa.str x z).ok K = true) : GloC K mg x (.str z) := by
  obtain ⟨t, e⟩ := He.str_ok X G c
  exact ⟨.str z, _, e, ⟨t, rfl⟩, fun _ _ => .str z⟩
theorem glo_int (X : K.In h) (G : h.Ns mainGlobals mg) {x : Str} {i : Int} (c : (He.Fa.int x i).ok K = true) : GloC K mg x (.int i) := by
  obtain ⟨t, e⟩ := He.int_ok X G c
  exact ⟨.int i, _, e, ⟨t, rfl⟩, fun _ _ => .int i⟩
theorem glo_tup (X : K.In h) (G : h.Ns mainGlobals mg) {x : Str} (vs : List He.Dv) (l : List D) (c : (He.Fa.glo x).ok K = true) (t : He.tupB K x vs = true) (hv : ∀ T H, DvL (K, T) H (vs.map (He.Dv.v K)) l) : GloC K mg x (.tup l) :=
  ⟨.ref (He.ga K x), _, He.glo_ok X G c, rfl, fun T H => .tup (He.tupB_ok t H) (hv T H)⟩
end
/-- a promise of nothing -/
theorem mkFn0 {P : Program} {w : World} {K : PySem.W.Frag} {T : List (Addr × Str)} {mg : Str → Option Value} {base h : Heap} {ps : List Str} {x : Str} {k : Nat} {sd : SpD} {fa : List He.Fa} {fn : List He.DefD} {d : He.DefD} (X : K.In h) (G : h.Ns mainGlobals mg) (c : He.SaysD fa fn K) (hd : d ∈ fn) (hx : d.at_ = (x, none)) (h1 : d.dfl = []) (h2 : d.kwd = []) (hg : He.Fa.glo x ∈ fa) (no : ∀ ds G R EX, ¬ sd ds G R EX)
    (hb : ∀ (kV doc pm : Value) (an : Option Addr) (cdv ct : Value) (us : List Value), us.length = ps.length → bindArgs (PySem.W.fnOf d.name d.qual d.params d.body d.scope .none kV doc pm an cdv ct) ⟨us, []⟩ = pure (ps.zip us)) :
    Fn P w (K, T) mg base x k ps sd := by
  obtain ⟨fd, F, e⟩ := defAt c hd h1 h2
  rw [hx] at F e
  exact ⟨_, fd, ⟨fun vs H Q E ⟨ds, G, R, EX, _, _, h, _⟩ => (no _ _ _ _ h).elim, fun A outer s H args us vs Q E _ _ _ _ ⟨ds, G, R, EX, _, _, h, _⟩ => (no _ _ _ _ h).elim⟩, He.glo_ok X G (c.facts hg), F.kp, F.bindsN hb⟩
theorem pure_offF (ds : List D) (G : DH) (R : DK) (EX : DX) (h : sd__law_off ds G R EX) : b__law_off (endsD (frg R) EX) (startD N__law_off ds) G := by
  obtain ⟨a, m, l, e, h1, h2, h3, h4, q⟩ := h
  exact pure_off ds G (frg R) EX ⟨a, m, l, e, h1, h2, h3, h4, fun r l' a b c => frg_of (q r l' a b c)⟩
theorem len_off (ds : List D) (G : DH) (R : DK) (EX : DX) (h : sd__law_off ds G R EX) : ds.length = 2 := by
  obtain ⟨a, m, l, rfl, _⟩ := h
  rfl
theorem len_dice (ds : List D) (G : DH) (R : DK) (EX : DX) (h : sd__law_dice ds G R EX) : ds.length = 2 := by
  obtain ⟨a, m, l, rfl, _⟩ := h
  rfl
theorem len_alike (k : Nat) (ds : List D) (G : DH) (R : DK) (EX : DX) (h : sd__law_alike (k + 1) ds G R EX) : ds.length = 2 := by
  obtain ⟨a, m, l, rfl, _⟩ := h
  rfl
theorem len_law (ds : List D) (G : DH) (R : DK) (EX : DX) (h : sdLaw ds G R EX) : ds.length = 1 := by
  obtain ⟨a, m, rfl, _⟩ := h
  rfl
/-- the law's walk, from its promise at the head's heap -/
theorem law_at {l : PySem.W.OpenLaw} {P : Program} (hP : l.prog = P) {w : World} {K : PySem.W.Frag} {mg : Str → Option Value} {fa : List He.Fa} {fn : List He.DefD} {ts : List He.Tab} {tf : List He.Defn} {ex : PySem.W.Frag → Bool} {h : Heap} {fadr : Addr} {k : Nat} {x : Str} {T : List (Addr × Str)} {d : He.DefD}
    (X : K.In h) (Y : He.SaysX fa fn ts tf ex w h K) (G : h.Ns mainGlobals mg) (hm : mg "law" = some (.ref fadr)) (hd : d ∈ fn) (hx : d.at_ = (("law" : Str), none)) (h1 : d.dfl = []) (h2 : d.kwd = []) (hg : He.Fa.glo "law" ∈ fa)
    (hT : ∀ p ∈ T, ∃ q ∈ tf, (He.cT K q).2 = p.1)
    (hb : ∀ (kV doc pm : Value) (an : Option Addr) (cdv ct : Value) (us : List Value), us.length = 1 → bindArgs (PySem.W.fnOf d.name d.qual d.params d.body d.scope .none kV doc pm an cdv ct) ⟨us, []⟩ = pure ([x].zip us))
    (F : ∀ base : Heap, K.In base → base.Ns mainGlobals mg → (∀ q ∈ tf, LamX.TabB base mg (He.cT K q).1 (He.cT K q).2) → ∀ fd, FunD K d.name d.qual d.params d.body d.scope [] [] (He.ga K "law") fd → FnOk P w K mg base (L2.CX P w) k (He.ga K "law") fd [x] (upF (K, T) sdLaw)) : LamX.LawAtS l w K (L2.CX P w) k 63 x mg fadr h := by
  subst hP
  obtain ⟨fd, Fd, e⟩ := defAt Y.t.d hd h1 h2
  rw [hx] at Fd e
  have em := hm.symm.trans (He.glo_ok X G (Y.t.d.facts hg))
  cases em
  refine ⟨fd, tf.map (He.cT K), upF (K, T) sdLaw, fun p hp => ?_, fun p hp => ?_, fun p hp => ?_, fun s u => Fd.bindsA (ps := [x]) hb s [u] rfl, fun H a ns hn _ hc hs => sdLaw_end (cs := tf.map (He.cT K)) (fun p hp => ?_) hn hc hs, fun base Xb Gb TBs => ?_⟩
  · obtain ⟨q, hq, rfl⟩ := List.mem_map.mp hp
    exact Y.empty q hq
  · obtain ⟨q, hq, rfl⟩ := List.mem_map.mp hp
    exact Y.out q hq
  · obtain ⟨q, hq, rfl⟩ := List.mem_map.mp hp
    exact PySem.W.codeHd_of_K X (Y.hd q hq)
  · obtain ⟨q, hq, e⟩ := hT p hp
    exact ⟨_, List.mem_map.mpr ⟨q, hq, rfl⟩, e⟩
  · exact F base Xb Gb (fun q hq => TBs _ (List.mem_map.mpr ⟨q, hq, rfl⟩)) fd Fd
end Cc
/-! ### k15: the plain law -/
namespace K15
open PySem PySem.Spec PyProof.Rows L2 Cc
open PySem.W (dataLe keyToks keyToksAll AllAlike Sortable alike alikeAll)
theorem sort_perm {α : Type} {enc : α → PyData} (inj : ∀ a b, keyToks (enc a) = keyToks (enc b) → a = b) {l l' : List α} (h : l.Perm l') : l.mergeSort (dataLe false enc) = l'.mergeSort (dataLe false enc) := by
  have T := PySem.W.sortLe_total (PyProof.Rows.listOrd PyProof.Rows.itemOrd) false fun b : α => keyToks (enc b)
  refine List.Perm.eq_of_pairwise (le := fun a b => dataLe false enc a b = true) (fun a b _ _ h1 h2 => ?_) (PySem.W.sort_pairwise T l) (PySem.W.sort_pairwise T l') (((List.mergeSort_perm _ _).trans h).trans (List.mergeSort_perm _ _).symm)
  have h1' : (!(PyProof.Rows.listOrd PyProof.Rows.itemOrd).blt (keyToks (enc b)) (keyToks (enc a))) = true := h1
  have h2' : (!(PyProof.Rows.listOrd PyProof.Rows.itemOrd).blt (keyToks (enc a)) (keyToks (enc b))) = true := h2
  rw [Bool.not_eq_true'] at h1' h2'
  exact inj a b ((PyProof.Rows.listOrd PyProof.Rows.itemOrd).total _ _ h2' h1')
/-! keys, moments, clashes -/
structure K3 where
  h : Int
  n : Int
  k : Int
structure T5 where
  b : Int
  e : Int
  key : K3
def K3.d (x : K3) : D := .tup [.int x.h, .int x.n, .int x.k]
def K3.p (x : K3) : PyData := .tuple [.int x.h, .int x.n, .int x.k]
def T5.d (x : T5) : D := .tup [.int x.b, .int x.e, .int x.key.h, .int x.key.n, .int x.key.k]
def T5.p (x : T5) : PyData := .tuple [.int x.b, .int x.e, .int x.key.h, .int x.key.n, .int x.key.k]
theorem K3.toks (x : K3) : keyToks x.p = [.inl 1, .inl x.h, .inl 1, .inl x.n, .inl 1, .inl x.k, .inl 0] := by
  simp [K3.p, keyToks, keyToksAll]
theorem T5.toks (x : T5) : keyToks x.p = [.inl 1, .inl x.b, .inl 1, .inl x.e, .inl 1, .inl x.key.h, .inl 1, .inl x.key.n, .inl 1, .inl x.key.k, .inl 0] := by
  simp [T5.p, keyToks, keyToksAll]
theorem K3.inj (x y : K3) (h : keyToks x.p = keyToks y.p) : x = y := by
  rw [K3.toks, K3.toks] at h
  obtain ⟨a, b, c⟩ := x
  obtain ⟨a', b', c'⟩ := y
  simp only [List.cons.injEq, Sum.inl.injEq, true_and, and_true] at h
  obtain ⟨rfl, rfl, rfl⟩ := h
  rfl
theorem T5.inj (x y : T5) (h : keyToks x.p = keyToks y.p) : x = y := by
  rw [T5.toks, T5.toks] at h
  obtain ⟨a, b, c, d, e⟩ := x
  obtain ⟨a', b', c', d', e'⟩ := y
  simp only [List.cons.injEq, Sum.inl.injEq, true_and, and_true] at h
  obtain ⟨rfl, rfl, rfl, rfl, rfl⟩ := h
  rfl
abbrev Cl := List K3
def clP (l : Cl) : PyData := .tuple (l.map K3.p)
def clD (l : Cl) : D := .tup (l.map K3.d)
theorem cl_toks : ∀ (l l' : Cl) (r r' : List (Int ⊕ List Nat)), keyToksAll (l.map K3.p) ++ r = keyToksAll (l'.map K3.p) ++ r' → l = l'
  | [], [], _, _, _ => rfl
  | [], y :: ys, r, r', h => by
    simp [keyToksAll] at h
  | x :: xs, [], r, r', h => by
    simp [keyToksAll] at h
  | x :: xs, y :: ys, r, r', h => by
    rw [List.map_cons, List.map_cons, keyToksAll, keyToksAll, K3.toks, K3.toks] at h
    simp only [List.cons_append, List.nil_append, List.append_assoc, List.cons.injEq, Sum.inl.injEq, true_and, and_true] at h
    obtain ⟨h1, h2, h3, h4⟩ := h
    have e : x = y := by
      obtain ⟨a, b, c⟩ := x
      obtain ⟨a', b', c'⟩ := y
      cases h1
      cases h2
      cases h3
      rfl
    rw [e, cl_toks xs ys r r' h4]
theorem cl_inj (l l' : Cl) (h : keyToks (clP l) = keyToks (clP l')) : l = l' := by
  refine cl_toks l l' [] [] ?_
  rw [List.append_nil, List.append_nil]
  unfold clP at h
  rw [keyToks, keyToks] at h
  exact h
/-- the two keys, the less one first -/
def two (x y : K3) : Cl := [x, y].mergeSort (dataLe false K3.p)
theorem two_comm (x y : K3) : two x y = two y x := sort_perm K3.inj (List.Perm.swap y x [])
theorem two_len (x y : K3) : (two x y).length = 2 := by unfold two; rw [List.length_mergeSort]; rfl
/-! pairs -/
def meet (x y : T5) : Option Cl := if x.b < y.e ∧ y.b < x.e then some (two x.key y.key) else none
theorem meet_comm (x y : T5) : meet x y = meet y x := by
  unfold meet
  rw [two_comm]
  by_cases h : x.b < y.e ∧ y.b < x.e
  · rw [if_pos h, if_pos ⟨h.2, h.1⟩]
  · rw [if_neg h, if_neg fun z => h ⟨z.2, z.1⟩]
def pairs : List T5 → List Cl
  | [] => []
  | x :: xs => xs.filterMap (meet x) ++ pairs xs
theorem pairs_perm {l l' : List T5} (h : l.Perm l') : (pairs l).Perm (pairs l') := by
  induction h with
  | nil => exact .refl _
  | cons x h ih => exact (h.filterMap _).append ih
  | swap x y l =>
    unfold pairs pairs
    rw [List.filterMap_cons, List.filterMap_cons, meet_comm y x]
    cases meet x y with
    | none =>
      simp only
      rw [← List.append_assoc, ← List.append_assoc]
      exact List.perm_append_comm.append_right _
    | some c =>
      simp only [List.cons_append]
      refine List.Perm.cons _ ?_
      rw [← List.append_assoc, ← List.append_assoc]
      exact List.perm_append_comm.append_right _
  | trans _ _ h1 h2 => exact h1.trans h2
/-- as the program looks -/
def meet1 (x y : T5) : Option Cl := if y.b < x.e then some (two x.key y.key) else none
def pairs1 : List T5 → List Cl
  | [] => []
  | x :: xs => xs.filterMap (meet1 x) ++ pairs1 xs
theorem fm_congr {α β : Type} {f g : α → Option β} : ∀ {l : List α}, (∀ x ∈ l, f x = g x) → l.filterMap f = l.filterMap g
  | [], _ => rfl
  | x :: xs, h => by rw [List.filterMap_cons, List.filterMap_cons, h x List.mem_cons_self, fm_congr fun y hy => h y (List.mem_cons_of_mem _ hy)]
theorem pairs1_eq : ∀ {l : List T5}, l.Pairwise (fun x y => x.b ≤ y.b) → (∀ x ∈ l, x.b < x.e) → pairs1 l = pairs l
  | [], _, _ => rfl
  | x :: xs, h, g => by
    obtain ⟨h1, h2⟩ := List.pairwise_cons.mp h
    have e : xs.filterMap (meet1 x) = xs.filterMap (meet x) := by
      refine fm_congr fun y hy => ?_
      unfold meet1 meet
      have a := h1 y hy
      have b := g y (List.mem_cons_of_mem _ hy)
      by_cases z : y.b < x.e
      · rw [if_pos z, if_pos ⟨by omega, z⟩]
      · rw [if_neg z, if_neg fun w => z w.2]
    unfold pairs1 pairs
    rw [e, pairs1_eq h2 fun y hy => g y (List.mem_cons_of_mem _ hy)]
def sortT (l : List T5) : List T5 := l.mergeSort (dataLe false T5.p)
def sortC (l : List Cl) : List Cl := l.mergeSort (dataLe false clP)
theorem lt_first {x y : T5} (h : y.b < x.b) : PySem.W.dataLt y.p x.p = true := by
  unfold T5.p
  rw [PySem.W.dataLt_tuple, PySem.W.dataLt_cons (by simp [alike])]
  simp only [PyData.eqv, beq_iff_eq]
  rw [if_neg (by omega), PySem.W.dataLt_int]
  exact decide_eq_true h
theorem sortT_rises (l : List T5) : (sortT l).Pairwise fun x y => x.b ≤ y.b := by
  have T := PySem.W.sortLe_total (PyProof.Rows.listOrd PyProof.Rows.itemOrd) false fun b : T5 => keyToks b.p
  refine (PySem.W.sort_pairwise T l).imp fun {x y} h => ?_
  have h' : (!PySem.W.dataLt y.p x.p) = true := h
  rw [Bool.not_eq_true'] at h'
  by_cases z : y.b < x.b
  · rw [lt_first z] at h'
    cases h'
  · omega
theorem clash_eq {l : List T5} (g : ∀ x ∈ l, x.b < x.e) : sortC (pairs1 (sortT l)) = sortC (pairs l) := by
  have p : (sortT l).Perm l := List.mergeSort_perm _ _
  rw [pairs1_eq (sortT_rises l) fun x hx => g x (p.mem_iff.mp hx)]
  exact sort_perm cl_inj (pairs_perm p)
end K15
/-! ### k15: books, promises -/
namespace K15
open PySem PySem.Spec PyProof.Rows L2 Cc
open PySem.W (dataLe EachIs AllAlike Sortable)
structure Gu where
  hand : Int
  by_ : Option Int
  words : List Str
structure Mo where
  k : Nat
  beg : Option Int
  often : Int
structure Me where
  h : Int
  n : Int
  v : Int
  long : Int
  mos : List Mo
  gus : List Gu
def oD : Option Int → D
  | none => .non
  | some i => .int i
def oP : Option Int → PyData
  | none => .none
  | some i => .int i
def Mo.d (m : Mo) : D := .tup [.int (m.k : Int), oD m.beg, .int m.often]
def Mo.p (m : Mo) : PyData := .tuple [.int (m.k : Int), oP m.beg, .int m.often]
def Gu.p (g : Gu) : PyData := .tuple [.int g.hand, oP g.by_, .list (g.words.map .str)]
def Me.p (m : Me) : PyData := .tuple [.int m.h, .int m.n, .int m.v, .str "", .int m.long, .list (m.mos.map Mo.p), .list (m.gus.map Gu.p)]
def GuAt (G : DH) (d : D) (g : Gu) : Prop := ∃ w, d = .tup [.int g.hand, oD g.by_, .ref w] ∧ G w = some (.lst (g.words.map .str))
def MeAt (G : DH) (d : D) (m : Me) : Prop := ∃ p q lg, d = .tup [.int m.h, .int m.n, .int m.v, .str "", .int m.long, .ref p, .ref q] ∧ G p = some (.lst (m.mos.map Mo.d)) ∧ G q = some (.lst lg) ∧ EachIs (GuAt G) lg m.gus
def BookAt (G : DH) (x : D) (B : List Me) : Prop := ∃ a l, x = .ref a ∧ G a = some (.lst l) ∧ EachIs (MeAt G) l B
structure Gu.Ok (g : Gu) : Prop where
  txt : ∀ w ∈ g.words, PyData.canLay0 (.str w) = true
  few : g.words.length ≤ 100
structure Me.Ok (m : Me) : Prop where
  long : 0 < m.long
  ks : ∀ mo ∈ m.mos, ∀ g ∈ m.gus, mo.k < g.words.length
  one : ∀ me, (m.gus.filter fun g => decide (g.hand = me)).length ≤ 1
  gus : ∀ g ∈ m.gus, g.Ok
  fewM : m.mos.length ≤ 10
  fewG : m.gus.length ≤ 100
structure Ok (B : List Me) : Prop where
  me : ∀ m ∈ B, m.Ok
  few : B.length ≤ 30
theorem GuAt.sub {G G' : DH} (s : Sub G G') {d : D} {g : Gu} (h : GuAt G d g) : GuAt G' d g := by
  obtain ⟨w, e, h⟩ := h
  exact ⟨w, e, s _ _ h⟩
theorem MeAt.sub {G G' : DH} (s : Sub G G') {d : D} {m : Me} (h : MeAt G d m) : MeAt G' d m := by
  obtain ⟨p, q, lg, e, h1, h2, h3⟩ := h
  exact ⟨p, q, lg, e, s _ _ h1, s _ _ h2, h3.mono fun _ _ z => z.sub s⟩
theorem BookAt.sub {G G' : DH} (s : Sub G G') {x : D} {B : List Me} (h : BookAt G x B) : BookAt G' x B := by
  obtain ⟨a, l, e, h1, h2⟩ := h
  exact ⟨a, l, e, s _ _ h1, h2.mono fun _ _ z => z.sub s⟩
theorem rdd_oD {G : DH} (o : Option Int) : Rdd G (oD o) (oP o) := by
  cases o with
  | none => exact .non
  | some i => exact .int i
theorem Mo.rdd {G : DH} (m : Mo) : Rdd G m.d m.p := .tup rfl (.cons (.int _) (.cons (rdd_oD _) (.cons (.int _) .nil)))
theorem GuAt.rdd {G : DH} {d : D} {g : Gu} (h : GuAt G d g) : Rdd G d g.p := by
  obtain ⟨w, rfl, e⟩ := h
  exact .tup rfl (.cons (.int _) (.cons (rdd_oD _) (.cons (.lst e (rdd_map fun x _ => .str x)) .nil)))
theorem MeAt.rdd {G : DH} {d : D} {m : Me} (h : MeAt G d m) : Rdd G d m.p := by
  obtain ⟨p, q, lg, rfl, h1, h2, h3⟩ := h
  exact .tup rfl (.cons (.int _) (.cons (.int _) (.cons (.int _) (.cons (.str _) (.cons (.int _) (.cons (.lst h1 (rdd_map fun x _ => x.rdd)) (.cons (.lst h2 (rdd_each (fun _ _ z => z.rdd) h3)) .nil)))))))
theorem lay_oP (o : Option Int) : (oP o).canLay0 = true ∧ (oP o).depth = 0 := by
  cases o with
  | none => exact ⟨by simp [oP, PyData.canLay0], by simp [oP, PyData.depth]⟩
  | some i => exact ⟨by simp [oP, PyData.canLay0], by simp [oP, PyData.depth]⟩
theorem Mo.lay (m : Mo) : m.p.canLay0 = true ∧ m.p.depth ≤ 1 := by
  obtain ⟨h1, h2⟩ := lay_oP m.beg
  unfold Mo.p
  simp only [PyData.canLay0, PyData.canLayAll0, PyData.depth, PyData.depthAll, h1, h2]
  exact ⟨rfl, by omega⟩
theorem Gu.Ok.lay {g : Gu} (h : g.Ok) : g.p.canLay0 = true ∧ g.p.depth ≤ 2 := by
  obtain ⟨h1, h2⟩ := lay_oP g.by_
  have h3 : PyData.canLayAll0 (g.words.map .str) = true := lay_map h.txt
  have h4 : PyData.depthAll (g.words.map .str) ≤ 0 := dep_map fun x _ => by simp [PyData.depth]
  unfold Gu.p
  simp only [PyData.canLay0, PyData.canLayAll0, PyData.depth, PyData.depthAll, h1, h2, h3]
  exact ⟨rfl, by omega⟩
theorem Me.Ok.lay {m : Me} (h : m.Ok) : m.p.canLay0 = true ∧ m.p.depth ≤ 4 := by
  have h3 : PyData.canLayAll0 (m.mos.map Mo.p) = true := lay_map fun x _ => x.lay.1
  have h4 : PyData.depthAll (m.mos.map Mo.p) ≤ 1 := dep_map fun x _ => x.lay.2
  have h5 : PyData.canLayAll0 (m.gus.map Gu.p) = true := lay_map fun x hx => (h.gus x hx).lay.1
  have h6 : PyData.depthAll (m.gus.map Gu.p) ≤ 2 := dep_map fun x hx => (h.gus x hx).lay.2
  have h7 : PyData.canLay0 (.str "") = true := by decide +kernel
  unfold Me.p
  simp only [PyData.canLay0, PyData.canLayAll0, PyData.depth, PyData.depthAll, h3, h5]
  rw [PyData.canLay0] at h7
  rw [h7]
  exact ⟨rfl, by omega⟩
def bookP (B : List Me) : PyData := .list (B.map Me.p)
theorem Ok.shaped {B : List Me} (h : Ok B) : SeqAt.shaped (bookP B) = true := by
  refine shaped_by ?_ ?_
  · unfold bookP
    rw [PyData.canLay0]
    exact lay_map fun x hx => (h.me x hx).lay.1
  · have : PyData.depthAll (B.map Me.p) ≤ 4 := dep_map fun x hx => (h.me x hx).lay.2
    unfold bookP
    rw [PyData.depth]
    omega
/-! what is computed -/
def off (m : Me) (k : Nat) (me : Int) : Bool := match m.gus.filter fun g => decide (g.hand = me) with
  | [] => false
  | g :: _ => (match g.words[k]? with
    | some w => decide (w = "no") || decide (w = "passed")
    | none => false)
def mT (m : Me) (me : Int) (mo : Mo) : Option T5 := match mo.beg with
  | none => none
  | some b => if off m mo.k me = true then none else some ⟨b, b + m.long, ⟨m.h, m.n, mo.k⟩⟩
def timesM (B : List Me) (me : Int) : List T5 := B.flatMap fun m => m.mos.filterMap (mT m me)
theorem mT_lt {m : Me} (h : m.Ok) {me : Int} {mo : Mo} {t : T5} (e : mT m me mo = some t) : t.b < t.e := by
  unfold mT at e
  split at e
  · cases e
  · split at e
    · cases e
    · cases e
      have := h.long
      dsimp only
      omega
theorem times_lt {B : List Me} (h : Ok B) {me : Int} : ∀ x ∈ timesM B me, x.b < x.e := fun x hx => by
  obtain ⟨m, hm, hx⟩ := List.mem_flatMap.mp hx
  obtain ⟨mo, _, e⟩ := List.mem_filterMap.mp hx
  exact mT_lt (h.me m hm) e
theorem times_len {B : List Me} (h : Ok B) {me : Int} : (timesM B me).length ≤ 300 := by
  have : ∀ B : List Me, (∀ m ∈ B, m.Ok) → (timesM B me).length ≤ B.length * 10 := fun B => by
    induction B with
    | nil => intro _; exact Nat.le_refl _
    | cons m B ih =>
      intro h
      have h1 := ih fun y hy => h y (List.mem_cons_of_mem _ hy)
      have h2 := List.length_filterMap_le (mT m me) m.mos
      have h3 := (h m List.mem_cons_self).fewM
      unfold timesM at h1 ⊢
      rw [List.flatMap_cons, List.length_append, List.length_cons]
      omega
  have := this B h.me
  have := h.few
  omega
theorem pairs_len : ∀ l : List T5, (pairs1 l).length ≤ l.length * l.length
  | [] => Nat.le_refl _
  | x :: xs => by
    have h1 := List.length_filterMap_le (meet1 x) xs
    have h2 := pairs_len xs
    unfold pairs1
    rw [List.length_append, List.length_cons, Nat.succ_mul, Nat.mul_succ]
    omega
theorem pairs_few {l : List T5} (h : l.length ≤ 300) : (pairs1 l).length ≤ 90000 := Nat.le_trans (pairs_len l) (Nat.mul_le_mul h h)
def sd_times_of : SpD := fun ds G R _ => ∃ x me B, ds = [x, .int me] ∧ BookAt G x B ∧ Ok B ∧ ∀ p, G p = none → R (.ref p) (updD G p (.lst ((sortT (timesM B me)).map T5.d)))
def sd_clashes : SpD := fun ds G R _ => ∃ x me B, ds = [x, .int me] ∧ BookAt G x B ∧ Ok B ∧ ∀ p, G p = none → R (.ref p) (updD G p (.lst ((sortC (pairs1 (sortT (timesM B me)))).map clD)))
def T5.d2 (x : T5) : D := .tup [.int x.b, .int x.e, x.key.d]
def sd__law_times : SpD := fun ds G R _ => ∃ x me B, ds = [x, .int me] ∧ BookAt G x B ∧ Ok B ∧ ∀ p, G p = none → R (.ref p) (updD G p (.lst ((timesM B me).map T5.d2)))
def sd__law_book : SpD := fun ds G R _ => ∃ a l, ds = [.ref a] ∧ G a = some (.lst l) ∧ Draws l ∧ ∀ x B l' G' G1, G' a = some (.lst l') → Draws l' → Sub G1 G' → G1 a = none → BookAt G1 x B → Ok B → R x G'
end K15
/-! ### k15: readings -/
namespace K15
open PySem PySem.Spec PyProof.Rows L2 Cc
def b_times_of : DSt :=
  (sSeq (sAsg (dLst dNil) (gN 2))
  (sSeq (sFor (iSq (dVar 0)) (gT 7 (gsCons (gN 3) (gsCons (gN 4) (gsCons (gN 5) (gsCons (gN 6) (gsCons (gN 7) (gsCons (gN 8) (gsCons (gN 9) gsNil)))))))) (sSeq (sAsg (dLc (iSq (dVar 9)) (gT 3 (gsNames [11, 12, 10])) (dTest (dOp dEq (dVar 11) (dVar 1))) (dVar 10) [11, 12, 10]) (gN 10))
  (sFor (iSq (dVar 8)) (gT 3 (gsCons (gN 13) (gsCons (gN 14) (gsCons (gN 15) gsNil)))) (sSeq (sAsg (dAndV (dOp dNe (dVar 10) (dLst dNil)) (dOp dIn (dOp dIx (dOp dIx (dVar 10) (dC (.int 0))) (dVar 13)) (dC (.tup [(.str "no"), (.str "passed")])))) (gN 16))
  (sIf (dAnd (dTest (dOp dNotN (dVar 14) (dC .non))) (dNot (dTest (dVar 16)))) (sDrop (dBM "list" mAppend (dVar 2) (dCons (dTup (dCons (dVar 14) (dCons (dOp dAdd (dVar 14) (dVar 7)) (dCons (dVar 3) (dCons (dVar 4) (dCons (dVar 13) dNil)))))) dNil))) sNext)))))
  (sRet (dCB dSorted (dCons (dVar 2) dNil)))))
abbrev N_times_of : List Str := ["book", "me", "found", "host", "number", "version", "note", "long", "rows", "guests", "words", "hand", "by", "k", "begin", "often", "is_off"]
def b_clashes : DSt :=
  (sSeq (sAsg (dCall sd_times_of (dCons (dVar 0) (dCons (dVar 1) dNil))) (gN 2))
  (sSeq (sAsg (dLst dNil) (gN 3))
  (sSeq (sFor (iEnumD (dVar 2)) (gT 2 (gsCons (gN 4) (gsCons (gN 5) gsNil))) (sFor (iSq (dSl sSl (dVar 2) (oSome (dOp dAdd (dVar 4) (dC (.int 1)))) oNo)) (gN 6) (sIf (dTest (dOp dLt (dOp dIx (dVar 6) (dC (.int 0))) (dOp dIx (dVar 5) (dC (.int 1))))) (sDrop (dBM "list" mAppend (dVar 3) (dCons (dCB dTupC (dCons (dCB dSorted (dCons (dLst (dCons (dSl sSl (dVar 5) (oSome (dC (.int 2))) oNo) (dCons (dSl sSl (dVar 6) (oSome (dC (.int 2))) oNo) dNil))) dNil)) dNil)) dNil))) sNext)))
  (sRet (dCB dSorted (dCons (dVar 3) dNil))))))
abbrev N_clashes : List Str := ["book", "me", "times", "found", "at", "one", "other"]
def b__law_book : DSt :=
  (sSeq (sAsg (dLst dNil) (gN 1))
  (sSeq (sFor (iRange1 (dCall sd__law_off (dCons (dVar 0) (dCons (dOp dIx (dLst (dCons (dC (.int 9)) (dCons (dC (.int 9)) (dCons (dC (.int 21)) dNil)))) (dCall sd__law_off (dCons (dVar 0) (dCons (dC (.int 3)) dNil)))) dNil)))) (gN 2) (sSeq (sAsg (dCall sd__law_off (dCons (dVar 0) (dCons (dC (.int 4)) dNil))) (gN 3))
  (sSeq (sAsg (dOp dAdd (dC (.int 1)) (dCall sd__law_off (dCons (dVar 0) (dCons (dC (.int 5)) dNil)))) (gN 4))
  (sSeq (sAsg (dLst dNil) (gN 5))
  (sSeq (sFor (iRange1 (dVar 4)) (gN 6) (sSeq (sAsg (dOp dIx (dLst (dCons (dCall sd__law_off (dCons (dVar 0) (dCons (dC (.int 30)) dNil))) (dCons (dCall sd__law_off (dCons (dVar 0) (dCons (dC (.int 30)) dNil))) (dCons (dC .non) (dCons (dCall sd__law_off (dCons (dVar 0) (dCons (dC (.int 1000)) dNil))) dNil))))) (dCall sd__law_off (dCons (dVar 0) (dCons (dC (.int 4)) dNil)))) (gN 7))
  (sDrop (dBM "list" mAppend (dVar 5) (dCons (dTup (dCons (dVar 6) (dCons (dVar 7) (dCons (dCall sd__law_off (dCons (dVar 0) (dCons (dC (.int 3)) dNil))) dNil)))) dNil)))))
  (sSeq (sAsg (dLst dNil) (gN 8))
  (sSeq (sFor (iSq (dLc (iRange1 (dC (.int 4))) (gN 10) (dAnd (dTest (dOp dNe (dVar 10) (dVar 3))) (dTest (dOp dEq (dCall sd__law_off (dCons (dVar 0) (dCons (dC (.int 2)) dNil))) (dC (.int 0))))) (dVar 10) [10])) (gN 9) (sSeq (sAsg (dLc (iRange1 (dVar 4)) (gN 6) dYes (dOp dIx (dLst (dCons (dC (.str "asked")) (dCons (dC (.str "yes")) (dCons (dC (.str "no")) (dCons (dC (.str "maybe")) dNil))))) (dCall sd__law_off (dCons (dVar 0) (dCons (dC (.int 4)) dNil)))) [6]) (gN 11))
  (sSeq (sIf (dTest (dOp dEq (dCall sd__law_off (dCons (dVar 0) (dCons (dC (.int 5)) dNil))) (dC (.int 0)))) (sAsg (dOp dMul (dLst (dCons (dC (.str "passed")) dNil)) (dVar 4)) (gN 11)) sNext)
  (sDrop (dBM "list" mAppend (dVar 8) (dCons (dTup (dCons (dVar 9) (dCons (dOp dIx (dLst (dCons (dC .non) (dCons (dVar 3) dNil))) (dCB dIntC (dCons (dOp dEq (dCall sd__law_off (dCons (dVar 0) (dCons (dC (.int 9)) dNil))) (dC (.int 0))) dNil))) (dCons (dVar 11) dNil)))) dNil))))))
  (sDrop (dBM "list" mAppend (dVar 1) (dCons (dTup (dCons (dVar 3) (dCons (dVar 2) (dCons (dOp dAdd (dC (.int 1)) (dCall sd__law_off (dCons (dVar 0) (dCons (dC (.int 3)) dNil)))) (dCons (dC (.str "")) (dCons (dOp dAdd (dC (.int 1)) (dCall sd__law_off (dCons (dVar 0) (dCons (dOp dIx (dLst (dCons (dC (.int 8)) (dCons (dC (.int 50)) dNil))) (dCall sd__law_off (dCons (dVar 0) (dCons (dC (.int 2)) dNil)))) dNil)))) (dCons (dVar 5) (dCons (dVar 8) dNil)))))))) dNil))))))))))
  (sRet (dSortG encII kII (dVar 1)))))
abbrev N__law_book : List Str := ["_law_d", "_law_found", "_law_number", "_law_host", "_law_many", "_law_moments", "_law_k", "_law_begin", "_law_guests", "_law_hand", "_law_one", "_law_words"]
def b__law_times : DSt :=
  (sSeq (sAsg (dLst dNil) (gN 2))
  (sSeq (sFor (iSq (dVar 0)) (gT 7 (gsCons (gN 3) (gsCons (gN 4) (gsCons (gN 5) (gsCons (gN 6) (gsCons (gN 7) (gsCons (gN 8) (gsCons (gN 9) gsNil)))))))) (sFor (iSq (dVar 8)) (gT 3 (gsCons (gN 10) (gsCons (gN 11) (gsCons (gN 12) gsNil)))) (sSeq (sAsg (dLc (iSq (dVar 9)) (gT 3 (gsNames [14, 15, 13])) (dTest (dOp dEq (dVar 14) (dVar 1))) (dOp dIx (dVar 13) (dVar 10)) [14, 15, 13]) (gN 13))
  (sIf (dAnd (dTest (dOp dNotN (dVar 11) (dC .non))) (dTest (dOp (dInT true) (dVar 13) (dTup (dCons (dLst (dCons (dC (.str "no")) dNil)) (dCons (dLst (dCons (dC (.str "passed")) dNil)) dNil)))))) (sDrop (dBM "list" mAppend (dVar 2) (dCons (dTup (dCons (dVar 11) (dCons (dOp dAdd (dVar 11) (dVar 7)) (dCons (dTup (dCons (dVar 3) (dCons (dVar 4) (dCons (dVar 10) dNil)))) dNil)))) dNil))) sNext))))
  (sRet (dVar 2))))
abbrev N__law_times : List Str := ["_law_book_here", "_law_me", "_law_found", "_law_host", "_law_number", "_law_version", "_law_note", "_law_long", "_law_moments", "_law_guests", "_law_k", "_law_begin", "_law_often", "_law_words", "_law_hand", "_law_by"]
def b_law : DSt :=
  (sSeq (sAsg (dCall sd__law_dice (dCons (dVar 0) (dCons (dC (.int 0)) dNil))) (gN 1))
  (sSeq (sFor (iRange1 (dC (.int 4))) (gN 2) (sSeq (sAsg (dCall sd__law_book (dCons (dVar 1) dNil)) (gN 3))
  (sSeq (sAsg (dCall sd__law_off (dCons (dVar 1) (dCons (dC (.int 4)) dNil))) (gN 4))
  (sSeq (sAsg (dLst dNil) (gN 5))
  (sSeq (sAsg (dCall sd__law_times (dCons (dVar 3) (dCons (dVar 4) dNil))) (gN 6))
  (sSeq (sFor (iRange1 (dCB dLen (dCons (dVar 6) dNil))) (gN 7) (sFor (iRange2 (dOp dAdd (dVar 7) (dC (.int 1))) (dCB dLen (dCons (dVar 6) dNil))) (gN 8) (sSeq (sPar2 9 10 (dCons (dOp dIx (dVar 6) (dVar 7)) (dCons (dOp dIx (dVar 6) (dVar 8)) dNil)))
  (sIf (dAnd (dTest (dOp dLt (dOp dIx (dVar 9) (dC (.int 0))) (dOp dIx (dVar 10) (dC (.int 1))))) (dTest (dOp dLt (dOp dIx (dVar 10) (dC (.int 0))) (dOp dIx (dVar 9) (dC (.int 1)))))) (sDrop (dBM "list" mAppend (dVar 5) (dCons (dCB dTupC (dCons (dCB dSorted (dCons (dLst (dCons (dOp dIx (dVar 9) (dC (.int 2))) (dCons (dOp dIx (dVar 10) (dC (.int 2))) dNil))) dNil)) dNil)) dNil))) sNext))))
  (sSeq (sAsg (dCB dListC (dCons (dVar 3) dNil)) (gN 11))
  (sFor (iRange1 (dC (.int 2))) (gN 12) (sSeq (sAsg (dCall sd_clashes (dCons (dVar 3) (dCons (dVar 4) dNil))) (gN 13))
  (sSeq (sIf (dOr (dNot (dTest (dCall (sd__law_alike 6) (dCons (dVar 13) (dCons (dCB dSorted (dCons (dVar 5) dNil)) dNil))))) (dTest (dOp dNe (dVar 3) (dVar 11)))) (sRet (dC (.bl false))) sNext)
  (sDrop (dBM "list" mAppend (dVar 13) (dCons (dTup dNil) dNil)))))))))))))
  (sRet (dOp dEq (dCall sd_clashes (dCons (dLst dNil) (dCons (dC (.int 3)) dNil))) (dLst dNil)))))
abbrev N_law : List Str := ["_law_script", "_law_d", "_law_turn", "_law_book_here", "_law_me", "_law_due", "_law_times_here", "_law_at", "_law_other", "_law_one", "_law_two", "_law_kept", "_law_again", "_law_found"]
end K15
/-! ### k15: each def keeps its reading -/
namespace K15
open PySem PySem.Spec PyProof.Rows L2 Cc
def top (i : Nat) : Stmt := PySem.Challenge.pw_crosscalls_k15_clashes_of_books.main.body.getD i (.Pass ⟨0, 0, 0, 0⟩)
structure Txt (K : PySem.W.Frag) (mg : Str → Option Value) where
  c_FREE : GloC K mg "FREE" (.tup [(.str "no"), (.str "passed")])
  f_abs : mg "abs" = none
  f_all : mg "all" = none
  f_bool : mg "bool" = none
  f_enumerate : mg "enumerate" = none
  f_int : mg "int" = none
  f_isinstance : mg "isinstance" = none
  f_len : mg "len" = none
  f_list : mg "list" = none
  f_range : mg "range" = none
  f_sorted : mg "sorted" = none
  f_str : mg "str" = none
  f_tuple : mg "tuple" = none
abbrev s_times_of : Stmt := top 2
theorem sc_times_of : FnScope N_times_of ["book", "me"] (defScope s_times_of) := ⟨rfl, rfl, rfl, by decide +kernel, rfl, by decide +kernel, by decide +kernel⟩
theorem bd_times_of {P : Program} {w : World} {K : PySem.W.Frag} {TT : List (Addr × Str)} {cv : Value → Prop} {mg : Str → Option Value} {base : Heap} (Tx : Txt K mg) : BodyD P w K TT cv mg base N_times_of "times_of" (defScope s_times_of) (defBody s_times_of) 0 b_times_of := by
  intro f cdv A outer s H E hcv hr
  have nd : (N_times_of).Nodup := sc_times_of.nd
  exact (pdss_cons (pds_asg (pd_lst pda_nil) (pdg_name (i := 2) nd rfl (by first | exact Or.inl rfl | exact Or.inr rfl)))
  (pdss_cons (pds_for poD rfl (pdi_seq (pd_var 0 (pv 0))) (pdg_tup rfl (pdgs_cons (pdg_name (i := 3) nd rfl (by first | exact Or.inl rfl | exact Or.inr rfl)) (pdgs_cons (pdg_name (i := 4) nd rfl (by first | exact Or.inl rfl | exact Or.inr rfl)) (pdgs_cons (pdg_name (i := 5) nd rfl (by first | exact Or.inl rfl | exact Or.inr rfl)) (pdgs_cons (pdg_name (i := 6) nd rfl (by first | exact Or.inl rfl | exact Or.inr rfl)) (pdgs_cons (pdg_name (i := 7) nd rfl (by first | exact Or.inl rfl | exact Or.inr rfl)) (pdgs_cons (pdg_name (i := 8) nd rfl (by first | exact Or.inl rfl | exact Or.inr rfl)) (pdgs_cons (pdg_name (i := 9) nd rfl (by first | exact Or.inl rfl | exact Or.inr rfl)) pdgs_nil)))))))) (pdss_cons (pds_asg (pd_lc (own := [("hand", 11), ("by", 12), ("words", 10)]) rfl nd (pdi_seq (pd_var 9 (pv 9))) (blkOk_by (own := [("hand", 11), ("by", 12), ("words", 10)]) (N := N_times_of) (sc := defScope s_times_of) (by decide +kernel)) (blk_tup (is := [11, 12, 10]) (by decide) (fun _ _ _ _ _ => pg_tup rfl (pgs_cons (pg_name (i := 11) nd rfl (by first | exact Or.inl rfl | exact Or.inr rfl)) (pgs_cons (pg_name (i := 12) nd rfl (by first | exact Or.inl rfl | exact Or.inr rfl)) (pgs_cons (pg_name (i := 10) nd rfl (by first | exact Or.inl rfl | exact Or.inr rfl)) pgs_nil)))) (fun _ _ _ _ _ => (pdts_one (pdt_cp (od_eq hr.units) (pd_var 11 (pv 11)) (pd_var 1 (pv 1))))) (fun _ _ _ _ _ => (pd_var 10 (pv 10))))) (pdg_name (i := 10) nd rfl (by first | exact Or.inl rfl | exact Or.inr rfl)))
  (pdss_one (pds_for poD rfl (pdi_seq (pd_var 8 (pv 8))) (pdg_tup rfl (pdgs_cons (pdg_name (i := 13) nd rfl (by first | exact Or.inl rfl | exact Or.inr rfl)) (pdgs_cons (pdg_name (i := 14) nd rfl (by first | exact Or.inl rfl | exact Or.inr rfl)) (pdgs_cons (pdg_name (i := 15) nd rfl (by first | exact Or.inl rfl | exact Or.inr rfl)) pdgs_nil)))) (pdss_cons (pds_asg (pd_and (pd_cp (od_ne hr.units) (pd_var 10 (pv 10)) (pd_lst pda_nil)) (pd_one (pd_cp (od_in (hu_of hr)) (pd_sub (ixd (hu_of hr)) (pd_sub (ixd (hu_of hr)) (pd_var 10 (pv 10)) pd_int) (pd_var 13 (pv 13))) (pd_glob (by rfl) Tx.c_FREE)))) (pdg_name (i := 16) nd rfl (by first | exact Or.inl rfl | exact Or.inr rfl)))
  (pdss_one (pds_if (PDW.pdt (pdw_and (pdt_cp od_notN (pd_var 14 (pv 14)) pd_non) (pdw_and1 (pdt_not (pdt_val (pd_var 16 (pv 16))))))) (pdss_one (pds_expr (pd_bm PySem.F.plainAttrs_list PySem.F.slot_list_append PySem.F.type_list_append md_append (pd_var 2 (pv 2)) (pda_cons (pd_tup (pda_cons (pd_var 14 (pv 14)) (pda_cons (pd_bin od_add (pd_var 14 (pv 14)) (pd_var 7 (pv 7))) (pda_cons (pd_var 3 (pv 3)) (pda_cons (pd_var 4 (pv 4)) (pda_cons (pd_var 13 (pv 13)) pda_nil)))))) pda_nil)))) pdss_nil)))))))
  (pdss_one (pds_ret (pd_blt (cd_sorted hr.units) Tx.f_sorted (by decide +kernel) (pda_cons (pd_var 2 (pv 2)) pda_nil))))))
abbrev s_clashes : Stmt := top 3
theorem sc_clashes : FnScope N_clashes ["book", "me"] (defScope s_clashes) := ⟨rfl, rfl, rfl, by decide +kernel, rfl, by decide +kernel, by decide +kernel⟩
theorem bd_clashes {P : Program} {w : World} {K : PySem.W.Frag} {TT : List (Addr × Str)} {cv : Value → Prop} {mg : Str → Option Value} {base : Heap} (Tx : Txt K mg) (F_times_of : Fn P w (K, TT) mg base "times_of" 1 ["book", "me"] sd_times_of) : BodyD P w K TT cv mg base N_clashes "clashes" (defScope s_clashes) (defBody s_clashes) 1 b_clashes := by
  intro f cdv A outer s H E hcv hr
  have nd : (N_clashes).Nodup := sc_clashes.nd
  exact (pdss_cons (pds_asg (pd_fn F_times_of hr psD (pda_cons (pd_var 0 (pv 0)) (pda_cons (pd_var 1 (pv 1)) pda_nil))) (pdg_name (i := 2) nd rfl (by first | exact Or.inl rfl | exact Or.inr rfl)))
  (pdss_cons (pds_asg (pd_lst pda_nil) (pdg_name (i := 3) nd rfl (by first | exact Or.inl rfl | exact Or.inr rfl)))
  (pdss_cons (pds_for poD rfl (pdi_enum rfl Tx.f_enumerate (pd_var 2 (pv 2))) (pdg_tup rfl (pdgs_cons (pdg_name (i := 4) nd rfl (by first | exact Or.inl rfl | exact Or.inr rfl)) (pdgs_cons (pdg_name (i := 5) nd rfl (by first | exact Or.inl rfl | exact Or.inr rfl)) pdgs_nil))) (pdss_one (pds_for poD rfl (pdi_seq (pd_slice sld (pd_var 2 (pv 2)) (pdo_some (pd_bin od_add (pd_var 4 (pv 4)) pd_int)) pdo_none)) (pdg_name (i := 6) nd rfl (by first | exact Or.inl rfl | exact Or.inr rfl)) (pdss_one (pds_if (pdt_cp od_lt (pd_sub (ixd (hu_of hr)) (pd_var 6 (pv 6)) pd_int) (pd_sub (ixd (hu_of hr)) (pd_var 5 (pv 5)) pd_int)) (pdss_one (pds_expr (pd_bm PySem.F.plainAttrs_list PySem.F.slot_list_append PySem.F.type_list_append md_append (pd_var 3 (pv 3)) (pda_cons (pd_btt cd_tup Tx.f_tuple (by decide +kernel) (pda_cons (pd_blt (cd_sorted hr.units) Tx.f_sorted (by decide +kernel) (pda_cons (pd_lst (pda_cons (pd_slice sld (pd_var 5 (pv 5)) (pdo_some pd_int) pdo_none) (pda_cons (pd_slice sld (pd_var 6 (pv 6)) (pdo_some pd_int) pdo_none) pda_nil))) pda_nil)) pda_nil)) pda_nil)))) pdss_nil)))))
  (pdss_one (pds_ret (pd_blt (cd_sorted hr.units) Tx.f_sorted (by decide +kernel) (pda_cons (pd_var 3 (pv 3)) pda_nil)))))))
abbrev s__law_dice : Stmt := top 5
theorem sc__law_dice : FnScope N__law_dice ["_law_script", "_law_k"] (defScope s__law_dice) := ⟨rfl, rfl, rfl, by decide +kernel, rfl, by decide +kernel, by decide +kernel⟩
theorem bd__law_dice {P : Program} {w : World} {K : PySem.W.Frag} {TT : List (Addr × Str)} {cv : Value → Prop} {mg : Str → Option Value} {base : Heap} (Tx : Txt K mg) : BodyD P w K TT cv mg base N__law_dice "_law_dice" (defScope s__law_dice) (defBody s__law_dice) 0 b__law_dice := by
  intro f cdv A outer s H E hcv hr
  have nd : (N__law_dice).Nodup := sc__law_dice.nd
  exact (pdss_cons (pds_asg (pd_var 1 (pv 1)) (pdg_name (i := 2) nd rfl (by first | exact Or.inl rfl | exact Or.inr rfl)))
  (pdss_cons (pds_for poD rfl (pdi_seq (pd_var 0 (pv 0))) (pdg_name (i := 3) nd rfl (by first | exact Or.inl rfl | exact Or.inr rfl)) (pdss_one (pds_asg (pd_bin od_mod (pd_bin od_add (pd_bin od_mul (pd_var 2 (pv 2)) pd_int) (pd_blt cd_abs Tx.f_abs (by decide +kernel) (pda_cons (pd_var 3 (pv 3)) pda_nil))) pd_int) (pdg_name (i := 2) nd rfl (by first | exact Or.inl rfl | exact Or.inr rfl)))))
  (pdss_one (pds_ret (pd_bin od_add (pd_lst (pda_cons (pd_var 2 (pv 2)) (pda_cons pd_int pda_nil))) (pd_lc (own := [("_law_cell", 3)]) rfl nd (pdi_seq (pd_var 0 (pv 0))) (blkOk_by (own := [("_law_cell", 3)]) (N := N__law_dice) (sc := defScope s__law_dice) (by decide +kernel)) (blk_name (i := 3) (by decide) (fun _ _ _ _ _ => pg_name (i := 3) nd rfl (by first | exact Or.inl rfl | exact Or.inr rfl)) (fun _ _ _ _ _ => (pdts_one (pdt_cp od_ge (pd_var 3 (pv 3)) (pd_bin od_pow pd_int pd_int)))) (fun _ _ _ _ _ => (pd_var 3 (pv 3))))))))))
abbrev s__law_off : Stmt := top 6
theorem sc__law_off : FnScope N__law_off ["_law_d", "_law_most"] (defScope s__law_off) := ⟨rfl, rfl, rfl, by decide +kernel, rfl, by decide +kernel, by decide +kernel⟩
theorem bd__law_off {P : Program} {w : World} {K : PySem.W.Frag} {TT : List (Addr × Str)} {cv : Value → Prop} {mg : Str → Option Value} {base : Heap} (Tx : Txt K mg) : BodyD P w K TT cv mg base N__law_off "_law_off" (defScope s__law_off) (defBody s__law_off) 0 b__law_off := by
  intro f cdv A outer s H E hcv hr
  have nd : (N__law_off).Nodup := sc__law_off.nd
  exact (pdss_cons (pds_if (PDW.pdt (pdw_and (pdt_cp (od_eq hr.units) (pd_sub (ixd (hu_of hr)) (pd_var 0 (pv 0)) pd_int) pd_int) (pdw_and1 (pdt_cp od_gt (pd_blt cd_len Tx.f_len (by decide +kernel) (pda_cons (pd_var 0 (pv 0)) pda_nil)) pd_int)))) (pdss_one (pds_asg (pd_bm PySem.F.plainAttrs_list PySem.F.slot_list_pop PySem.F.type_list_pop md_popAt (pd_var 0 (pv 0)) (pda_cons pd_int pda_nil)) (pdg_sub set_listD.1 set_listD.2 (pd_var 0 (pv 0)) pd_int))) pdss_nil)
  (pdss_cons (pds_if (pdt_cp od_gt (pd_sub (ixd (hu_of hr)) (pd_var 0 (pv 0)) pd_int) pd_int) (pdss_cons (pds_asg (pd_bin od_mod (pd_sub (ixd (hu_of hr)) (pd_var 0 (pv 0)) pd_int) (pd_var 1 (pv 1))) (pdg_name (i := 2) nd rfl (by first | exact Or.inl rfl | exact Or.inr rfl)))
  (pdss_cons (pds_asg (pd_bin od_fdiv (pd_sub (ixd (hu_of hr)) (pd_var 0 (pv 0)) pd_int) (pd_var 1 (pv 1))) (pdg_sub set_listD.1 set_listD.2 (pd_var 0 (pv 0)) pd_int))
  (pdss_one (pds_ret (pd_var 2 (pv 2)))))) pdss_nil)
  (pdss_cons (pds_asg (pd_bin od_mod (pd_bin od_add (pd_bin od_mul (pd_sub (ixd (hu_of hr)) (pd_var 0 (pv 0)) pd_int) pd_int) pd_int) pd_int) (pdg_sub set_listD.1 set_listD.2 (pd_var 0 (pv 0)) pd_int))
  (pdss_one (pds_ret (pd_bin od_mod (pd_bin od_fdiv (pd_sub (ixd (hu_of hr)) (pd_var 0 (pv 0)) pd_int) pd_int) (pd_var 1 (pv 1))))))))
abbrev s__law_alike : Stmt := top 7
theorem sc__law_alike : FnScope N__law_alike ["_law_found", "_law_due"] (defScope s__law_alike) := ⟨rfl, rfl, rfl, by decide +kernel, rfl, by decide +kernel, by decide +kernel⟩
theorem bd__law_alike {P : Program} {w : World} {K : PySem.W.Frag} {TT : List (Addr × Str)} {cv : Value → Prop} {mg : Str → Option Value} {base : Heap} (Tx : Txt K mg) {k : Nat} (F__law_alike : Fn P w (K, TT) mg base "_law_alike" k ["_law_found", "_law_due"] (sd__law_alike k)) : BodyD P w K TT cv mg base N__law_alike "_law_alike" (defScope s__law_alike) (defBody s__law_alike) k (b__law_alike k) := by
  intro f cdv A outer s H E hcv hr
  have nd : (N__law_alike).Nodup := sc__law_alike.nd
  exact (pdss_cons (pds_if (pdt_cp od_isN (pd_var 1 (pv 1)) pd_non) (pdss_one (pds_ret (pd_cp od_isN (pd_var 0 (pv 0)) pd_non))) pdss_nil)
  (pdss_cons (pds_if (pdt_val (pd_blt cd_isi Tx.f_isinstance (by decide +kernel) (pda_cons (pd_var 1 (pv 1)) (pda_cons (pd_ty Tx.f_bool (by decide +kernel)) pda_nil)))) (pdss_one (pds_ret (pd_and (pd_blt cd_isi Tx.f_isinstance (by decide +kernel) (pda_cons (pd_var 0 (pv 0)) (pda_cons (pd_ty Tx.f_bool (by decide +kernel)) pda_nil))) (pd_one (pd_cp (od_eq hr.units) (pd_var 0 (pv 0)) (pd_var 1 (pv 1))))))) pdss_nil)
  (pdss_cons (pds_if (pdt_val (pd_blt cd_isi Tx.f_isinstance (by decide +kernel) (pda_cons (pd_var 1 (pv 1)) (pda_cons (pd_ty Tx.f_int (by decide +kernel)) pda_nil)))) (pdss_one (pds_ret (pd_and (pd_blt cd_isi Tx.f_isinstance (by decide +kernel) (pda_cons (pd_var 0 (pv 0)) (pda_cons (pd_ty Tx.f_int (by decide +kernel)) pda_nil))) (pd_and (pd_not (pd_blt cd_isi Tx.f_isinstance (by decide +kernel) (pda_cons (pd_var 0 (pv 0)) (pda_cons (pd_ty Tx.f_bool (by decide +kernel)) pda_nil)))) (pd_one (pd_cp (od_eq hr.units) (pd_var 0 (pv 0)) (pd_var 1 (pv 1)))))))) pdss_nil)
  (pdss_cons (pds_if (pdt_val (pd_blt cd_isi Tx.f_isinstance (by decide +kernel) (pda_cons (pd_var 1 (pv 1)) (pda_cons (pd_ty Tx.f_str (by decide +kernel)) pda_nil)))) (pdss_one (pds_ret (pd_and (pd_blt cd_isi Tx.f_isinstance (by decide +kernel) (pda_cons (pd_var 0 (pv 0)) (pda_cons (pd_ty Tx.f_str (by decide +kernel)) pda_nil))) (pd_one (pd_cp (od_eq hr.units) (pd_var 0 (pv 0)) (pd_var 1 (pv 1))))))) pdss_nil)
  (pdss_cons (pds_if (PDW.pdt (pdw_or (pdt_cp (od_ne hr.units) (pd_blt cd_isi Tx.f_isinstance (by decide +kernel) (pda_cons (pd_var 1 (pv 1)) (pda_cons (pd_ty Tx.f_tuple (by decide +kernel)) pda_nil))) (pd_blt cd_isi Tx.f_isinstance (by decide +kernel) (pda_cons (pd_var 0 (pv 0)) (pda_cons (pd_ty Tx.f_tuple (by decide +kernel)) pda_nil)))) (pdw_or1 (pdt_cp (od_ne hr.units) (pd_blt cd_isi Tx.f_isinstance (by decide +kernel) (pda_cons (pd_var 1 (pv 1)) (pda_cons (pd_ty Tx.f_list (by decide +kernel)) pda_nil))) (pd_blt cd_isi Tx.f_isinstance (by decide +kernel) (pda_cons (pd_var 0 (pv 0)) (pda_cons (pd_ty Tx.f_list (by decide +kernel)) pda_nil))))))) (pdss_one (pds_ret pd_bl)) pdss_nil)
  (pdss_cons (pds_if (pdt_cp (od_ne hr.units) (pd_blt cd_len Tx.f_len (by decide +kernel) (pda_cons (pd_var 0 (pv 0)) pda_nil)) (pd_blt cd_len Tx.f_len (by decide +kernel) (pda_cons (pd_var 1 (pv 1)) pda_nil))) (pdss_one (pds_ret pd_bl)) pdss_nil)
  (pdss_one (pds_ret (pd_blt (cd_all rfl) Tx.f_all (by decide +kernel) (pda_cons (pd_lc (own := [("_law_k", 2)]) rfl nd (pdi_range1 rfl Tx.f_range (pd_blt cd_len Tx.f_len (by decide +kernel) (pda_cons (pd_var 1 (pv 1)) pda_nil))) (blkOk_by (own := [("_law_k", 2)]) (N := N__law_alike) (sc := defScope s__law_alike) (by decide +kernel)) (blk_name (i := 2) (by decide) (fun _ _ _ _ _ => pg_name (i := 2) nd rfl (by first | exact Or.inl rfl | exact Or.inr rfl)) (fun _ _ _ _ _ => pdts_nil) (fun _ _ _ _ _ => (pd_fn F__law_alike hr passL (pda_cons (pd_sub (ixd (hu_of hr)) (pd_var 0 (pv 0)) (pd_var 2 (pv 2))) (pda_cons (pd_sub (ixd (hu_of hr)) (pd_var 1 (pv 1)) (pd_var 2 (pv 2))) pda_nil)) (Nat.le_refl _))))) pda_nil))))))))))
abbrev s__law_book : Stmt := top 8
theorem sc__law_book : FnScope N__law_book ["_law_d"] (defScope s__law_book) := ⟨rfl, rfl, rfl, by decide +kernel, rfl, by decide +kernel, by decide +kernel⟩
theorem bd__law_book {P : Program} {w : World} {K : PySem.W.Frag} {TT : List (Addr × Str)} {mg : Str → Option Value} {base : Heap} (Tx : Txt K mg) (F__law_off : Fn P w (K, TT) mg base "_law_off" 1 ["_law_d", "_law_most"] sd__law_off) {c PA : Addr} (TB : LamX.TabB base mg c PA) (hmT : (PA, ("_law_book" : Str) ++ ".<locals>." ++ "<lambda>") ∈ TT) (huT : ∀ q ∈ TT, q.1 = PA → q.2 = ("_law_book" : Str) ++ ".<locals>." ++ "<lambda>") : BodyD P w K TT (fun v => v = .ref c) mg base N__law_book "_law_book" (defScope s__law_book) (defBody s__law_book) 2 b__law_book := by
  intro f cdv A outer s H E hcv hr
  have nd : (N__law_book).Nodup := sc__law_book.nd
  have hcode : cdv = .ref c := hcv
  subst hcode
  exact (pdss_cons (pds_asg (pd_lst pda_nil) (pdg_name (i := 1) nd rfl (by first | exact Or.inl rfl | exact Or.inr rfl)))
  (pdss_cons (pds_for poD rfl (pdi_range1 rfl Tx.f_range (pd_fn F__law_off hr psD (pda_cons (pd_var 0 (pv 0)) (pda_cons (pd_sub (ixd (hu_of hr)) (pd_lst (pda_cons pd_int (pda_cons pd_int (pda_cons pd_int pda_nil)))) (pd_fn F__law_off hr psD (pda_cons (pd_var 0 (pv 0)) (pda_cons pd_int pda_nil)))) pda_nil)))) (pdg_name (i := 2) nd rfl (by first | exact Or.inl rfl | exact Or.inr rfl)) (pdss_cons (pds_asg (pd_fn F__law_off hr psD (pda_cons (pd_var 0 (pv 0)) (pda_cons pd_int pda_nil))) (pdg_name (i := 3) nd rfl (by first | exact Or.inl rfl | exact Or.inr rfl)))
  (pdss_cons (pds_asg (pd_bin od_add pd_int (pd_fn F__law_off hr psD (pda_cons (pd_var 0 (pv 0)) (pda_cons pd_int pda_nil)))) (pdg_name (i := 4) nd rfl (by first | exact Or.inl rfl | exact Or.inr rfl)))
  (pdss_cons (pds_asg (pd_lst pda_nil) (pdg_name (i := 5) nd rfl (by first | exact Or.inl rfl | exact Or.inr rfl)))
  (pdss_cons (pds_for poD rfl (pdi_range1 rfl Tx.f_range (pd_var 4 (pv 4))) (pdg_name (i := 6) nd rfl (by first | exact Or.inl rfl | exact Or.inr rfl)) (pdss_cons (pds_asg (pd_sub (ixd (hu_of hr)) (pd_lst (pda_cons (pd_fn F__law_off hr psD (pda_cons (pd_var 0 (pv 0)) (pda_cons pd_int pda_nil))) (pda_cons (pd_fn F__law_off hr psD (pda_cons (pd_var 0 (pv 0)) (pda_cons pd_int pda_nil))) (pda_cons pd_non (pda_cons (pd_fn F__law_off hr psD (pda_cons (pd_var 0 (pv 0)) (pda_cons pd_int pda_nil))) pda_nil))))) (pd_fn F__law_off hr psD (pda_cons (pd_var 0 (pv 0)) (pda_cons pd_int pda_nil)))) (pdg_name (i := 7) nd rfl (by first | exact Or.inl rfl | exact Or.inr rfl)))
  (pdss_one (pds_expr (pd_bm PySem.F.plainAttrs_list PySem.F.slot_list_append PySem.F.type_list_append md_append (pd_var 5 (pv 5)) (pda_cons (pd_tup (pda_cons (pd_var 6 (pv 6)) (pda_cons (pd_var 7 (pv 7)) (pda_cons (pd_fn F__law_off hr psD (pda_cons (pd_var 0 (pv 0)) (pda_cons pd_int pda_nil))) pda_nil)))) pda_nil))))))
  (pdss_cons (pds_asg (pd_lst pda_nil) (pdg_name (i := 8) nd rfl (by first | exact Or.inl rfl | exact Or.inr rfl)))
  (pdss_cons (pds_for poD rfl (pdi_seq (pd_lc (own := [("_law_one", 10)]) rfl nd (pdi_range1 rfl Tx.f_range pd_int) (blkOk_by (own := [("_law_one", 10)]) (N := N__law_book) (sc := defScope s__law_book) (by decide +kernel)) (blk_name (i := 10) (by decide) (fun _ _ _ _ _ => pg_name (i := 10) nd rfl (by first | exact Or.inl rfl | exact Or.inr rfl)) (fun _ _ _ _ _ => (pdts_one (PDW.pdt (pdw_and (pdt_cp (od_ne hr.units) (pd_var 10 (pv 10)) (pd_var 3 (pv 3))) (pdw_and1 (pdt_cp (od_eq hr.units) (pd_fn F__law_off hr passL (pda_cons (pd_var 0 (pv 0)) (pda_cons pd_int pda_nil))) pd_int)))))) (fun _ _ _ _ _ => (pd_var 10 (pv 10)))))) (pdg_name (i := 9) nd rfl (by first | exact Or.inl rfl | exact Or.inr rfl)) (pdss_cons (pds_setLc (i := 11) (own := [("_law_k", 6)]) rfl nd rfl rfl (sw_true rfl rfl rfl (by decide +kernel)) (pdi_range1 rfl Tx.f_range (pd_var 4 (pv 4))) (blkOk_by (own := [("_law_k", 6)]) (N := N__law_book) (sc := defScope s__law_book) (by decide +kernel)) (blk_name (i := 6) (by decide) (fun _ _ _ _ _ => pg_name (i := 6) nd rfl (by first | exact Or.inl rfl | exact Or.inr rfl)) (fun _ _ _ _ _ => pdts_nil) (fun _ _ _ _ _ => (pd_sub (ixd (hu_of hr)) (pd_lst (pda_cons pd_str (pda_cons pd_str (pda_cons pd_str (pda_cons pd_str pda_nil))))) (pd_fn F__law_off hr passL (pda_cons (pd_var 0 (pv 0)) (pda_cons pd_int pda_nil)))))))
  (pdss_cons (pds_if (pdt_cp (od_eq hr.units) (pd_fn F__law_off hr psD (pda_cons (pd_var 0 (pv 0)) (pda_cons pd_int pda_nil))) pd_int) (pdss_one (pds_asg (pd_bin od_mul (pd_lst (pda_cons pd_str pda_nil)) (pd_var 4 (pv 4))) (pdg_name (i := 11) nd rfl (by first | exact Or.inl rfl | exact Or.inr rfl)))) pdss_nil)
  (pdss_one (pds_expr (pd_bm PySem.F.plainAttrs_list PySem.F.slot_list_append PySem.F.type_list_append md_append (pd_var 8 (pv 8)) (pda_cons (pd_tup (pda_cons (pd_var 9 (pv 9)) (pda_cons (pd_sub (ixd (hu_of hr)) (pd_lst (pda_cons pd_non (pda_cons (pd_var 3 (pv 3)) pda_nil))) (pd_btt cd_int Tx.f_int (by decide +kernel) (pda_cons (pd_cp (od_eq hr.units) (pd_fn F__law_off hr psD (pda_cons (pd_var 0 (pv 0)) (pda_cons pd_int pda_nil))) pd_int) pda_nil))) (pda_cons (pd_var 11 (pv 11)) pda_nil)))) pda_nil)))))))
  (pdss_one (pds_expr (pd_bm PySem.F.plainAttrs_list PySem.F.slot_list_append PySem.F.type_list_append md_append (pd_var 1 (pv 1)) (pda_cons (pd_tup (pda_cons (pd_var 3 (pv 3)) (pda_cons (pd_var 2 (pv 2)) (pda_cons (pd_bin od_add pd_int (pd_fn F__law_off hr psD (pda_cons (pd_var 0 (pv 0)) (pda_cons pd_int pda_nil)))) (pda_cons pd_str (pda_cons (pd_bin od_add pd_int (pd_fn F__law_off hr psD (pda_cons (pd_var 0 (pv 0)) (pda_cons (pd_sub (ixd (hu_of hr)) (pd_lst (pda_cons pd_int (pda_cons pd_int pda_nil))) (pd_fn F__law_off hr psD (pda_cons (pd_var 0 (pv 0)) (pda_cons pd_int pda_nil)))) pda_nil)))) (pda_cons (pd_var 5 (pv 5)) (pda_cons (pd_var 8 (pv 8)) pda_nil)))))))) pda_nil)))))))))))
  (pdss_one (pds_ret (pd_sortG (j := 0) (x := "_law_row") keyII encII_alike encII_sort encII_depth kII_tl TB rfl hmT huT (lam1_by (by decide +kernel)) rfl (fun _ _ _ _ => rfl) (hr.mono (by decide)) Tx.f_sorted (pd_var 1 (pv 1)))))))
abbrev s__law_times : Stmt := top 9
theorem sc__law_times : FnScope N__law_times ["_law_book_here", "_law_me"] (defScope s__law_times) := ⟨rfl, rfl, rfl, by decide +kernel, rfl, by decide +kernel, by decide +kernel⟩
theorem bd__law_times {P : Program} {w : World} {K : PySem.W.Frag} {TT : List (Addr × Str)} {cv : Value → Prop} {mg : Str → Option Value} {base : Heap} (Tx : Txt K mg) : BodyD P w K TT cv mg base N__law_times "_law_times" (defScope s__law_times) (defBody s__law_times) 0 b__law_times := by
  intro f cdv A outer s H E hcv hr
  have nd : (N__law_times).Nodup := sc__law_times.nd
  exact (pdss_cons (pds_asg (pd_lst pda_nil) (pdg_name (i := 2) nd rfl (by first | exact Or.inl rfl | exact Or.inr rfl)))
  (pdss_cons (pds_for poD rfl (pdi_seq (pd_var 0 (pv 0))) (pdg_tup rfl (pdgs_cons (pdg_name (i := 3) nd rfl (by first | exact Or.inl rfl | exact Or.inr rfl)) (pdgs_cons (pdg_name (i := 4) nd rfl (by first | exact Or.inl rfl | exact Or.inr rfl)) (pdgs_cons (pdg_name (i := 5) nd rfl (by first | exact Or.inl rfl | exact Or.inr rfl)) (pdgs_cons (pdg_name (i := 6) nd rfl (by first | exact Or.inl rfl | exact Or.inr rfl)) (pdgs_cons (pdg_name (i := 7) nd rfl (by first | exact Or.inl rfl | exact Or.inr rfl)) (pdgs_cons (pdg_name (i := 8) nd rfl (by first | exact Or.inl rfl | exact Or.inr rfl)) (pdgs_cons (pdg_name (i := 9) nd rfl (by first | exact Or.inl rfl | exact Or.inr rfl)) pdgs_nil)))))))) (pdss_one (pds_for poD rfl (pdi_seq (pd_var 8 (pv 8))) (pdg_tup rfl (pdgs_cons (pdg_name (i := 10) nd rfl (by first | exact Or.inl rfl | exact Or.inr rfl)) (pdgs_cons (pdg_name (i := 11) nd rfl (by first | exact Or.inl rfl | exact Or.inr rfl)) (pdgs_cons (pdg_name (i := 12) nd rfl (by first | exact Or.inl rfl | exact Or.inr rfl)) pdgs_nil)))) (pdss_cons (pds_asg (pd_lc (own := [("_law_hand", 14), ("_law_by", 15), ("_law_words", 13)]) rfl nd (pdi_seq (pd_var 9 (pv 9))) (blkOk_by (own := [("_law_hand", 14), ("_law_by", 15), ("_law_words", 13)]) (N := N__law_times) (sc := defScope s__law_times) (by decide +kernel)) (blk_tup (is := [14, 15, 13]) (by decide) (fun _ _ _ _ _ => pg_tup rfl (pgs_cons (pg_name (i := 14) nd rfl (by first | exact Or.inl rfl | exact Or.inr rfl)) (pgs_cons (pg_name (i := 15) nd rfl (by first | exact Or.inl rfl | exact Or.inr rfl)) (pgs_cons (pg_name (i := 13) nd rfl (by first | exact Or.inl rfl | exact Or.inr rfl)) pgs_nil)))) (fun _ _ _ _ _ => (pdts_one (pdt_cp (od_eq hr.units) (pd_var 14 (pv 14)) (pd_var 1 (pv 1))))) (fun _ _ _ _ _ => (pd_sub (ixd (hu_of hr)) (pd_var 13 (pv 13)) (pd_var 10 (pv 10)))))) (pdg_name (i := 13) nd rfl (by first | exact Or.inl rfl | exact Or.inr rfl)))
  (pdss_one (pds_if (PDW.pdt (pdw_and (pdt_cp od_notN (pd_var 11 (pv 11)) pd_non) (pdw_and1 (pdt_cp (od_notInT hr.units) (pd_var 13 (pv 13)) (pd_tup (pda_cons (pd_lst (pda_cons pd_str pda_nil)) (pda_cons (pd_lst (pda_cons pd_str pda_nil)) pda_nil))))))) (pdss_one (pds_expr (pd_bm PySem.F.plainAttrs_list PySem.F.slot_list_append PySem.F.type_list_append md_append (pd_var 2 (pv 2)) (pda_cons (pd_tup (pda_cons (pd_var 11 (pv 11)) (pda_cons (pd_bin od_add (pd_var 11 (pv 11)) (pd_var 7 (pv 7))) (pda_cons (pd_tup (pda_cons (pd_var 3 (pv 3)) (pda_cons (pd_var 4 (pv 4)) (pda_cons (pd_var 10 (pv 10)) pda_nil)))) pda_nil)))) pda_nil)))) pdss_nil))))))
  (pdss_one (pds_ret (pd_var 2 (pv 2))))))
abbrev s_law : Stmt := top 10
theorem sc_law : FnScope N_law ["_law_script"] (defScope s_law) := ⟨rfl, rfl, rfl, by decide +kernel, rfl, by decide +kernel, by decide +kernel⟩
theorem bd_law {P : Program} {w : World} {K : PySem.W.Frag} {TT : List (Addr × Str)} {cv : Value → Prop} {mg : Str → Option Value} {base : Heap} (Tx : Txt K mg) (F__law_alike : Fn P w (K, TT) mg base "_law_alike" 6 ["_law_found", "_law_due"] (sd__law_alike 6)) (F__law_book : Fn P w (K, TT) mg base "_law_book" 3 ["_law_d"] sd__law_book) (F__law_dice : Fn P w (K, TT) mg base "_law_dice" 1 ["_law_script", "_law_k"] sd__law_dice) (F__law_off : Fn P w (K, TT) mg base "_law_off" 1 ["_law_d", "_law_most"] sd__law_off) (F__law_times : Fn P w (K, TT) mg base "_law_times" 1 ["_law_book_here", "_law_me"] sd__law_times) (F_clashes : Fn P w (K, TT) mg base "clashes" 2 ["book", "me"] sd_clashes) : BodyD P w K TT cv mg base N_law "law" (defScope s_law) (defBody s_law) 6 b_law := by
  intro f cdv A outer s H E hcv hr
  have nd : (N_law).Nodup := sc_law.nd
  exact (pdss_cons (pds_asg (pd_fn F__law_dice hr psD (pda_cons (pd_var 0 (pv 0)) (pda_cons pd_int pda_nil))) (pdg_name (i := 1) nd rfl (by first | exact Or.inl rfl | exact Or.inr rfl)))
  (pdss_cons (pds_for poD rfl (pdi_range1 rfl Tx.f_range pd_int) (pdg_name (i := 2) nd rfl (by first | exact Or.inl rfl | exact Or.inr rfl)) (pdss_cons (pds_asg (pd_fn F__law_book hr psD (pda_cons (pd_var 1 (pv 1)) pda_nil)) (pdg_name (i := 3) nd rfl (by first | exact Or.inl rfl | exact Or.inr rfl)))
  (pdss_cons (pds_asg (pd_fn F__law_off hr psD (pda_cons (pd_var 1 (pv 1)) (pda_cons pd_int pda_nil))) (pdg_name (i := 4) nd rfl (by first | exact Or.inl rfl | exact Or.inr rfl)))
  (pdss_cons (pds_asg (pd_lst pda_nil) (pdg_name (i := 5) nd rfl (by first | exact Or.inl rfl | exact Or.inr rfl)))
  (pdss_cons (pds_asg (pd_fn F__law_times hr psD (pda_cons (pd_var 3 (pv 3)) (pda_cons (pd_var 4 (pv 4)) pda_nil))) (pdg_name (i := 6) nd rfl (by first | exact Or.inl rfl | exact Or.inr rfl)))
  (pdss_cons (pds_for poD rfl (pdi_range1 rfl Tx.f_range (pd_blt cd_len Tx.f_len (by decide +kernel) (pda_cons (pd_var 6 (pv 6)) pda_nil))) (pdg_name (i := 7) nd rfl (by first | exact Or.inl rfl | exact Or.inr rfl)) (pdss_one (pds_for poD rfl (pdi_range2 rfl Tx.f_range (pd_bin od_add (pd_var 7 (pv 7)) pd_int) (pd_blt cd_len Tx.f_len (by decide +kernel) (pda_cons (pd_var 6 (pv 6)) pda_nil))) (pdg_name (i := 8) nd rfl (by first | exact Or.inl rfl | exact Or.inr rfl)) (pdss_cons (pds_par2 rfl nd rfl rfl (by decide) rfl rfl (pda_cons (pd_sub (ixd (hu_of hr)) (pd_var 6 (pv 6)) (pd_var 7 (pv 7))) (pda_cons (pd_sub (ixd (hu_of hr)) (pd_var 6 (pv 6)) (pd_var 8 (pv 8))) pda_nil)))
  (pdss_one (pds_if (PDW.pdt (pdw_and (pdt_cp od_lt (pd_sub (ixd (hu_of hr)) (pd_var 9 (pv 9)) pd_int) (pd_sub (ixd (hu_of hr)) (pd_var 10 (pv 10)) pd_int)) (pdw_and1 (pdt_cp od_lt (pd_sub (ixd (hu_of hr)) (pd_var 10 (pv 10)) pd_int) (pd_sub (ixd (hu_of hr)) (pd_var 9 (pv 9)) pd_int))))) (pdss_one (pds_expr (pd_bm PySem.F.plainAttrs_list PySem.F.slot_list_append PySem.F.type_list_append md_append (pd_var 5 (pv 5)) (pda_cons (pd_btt cd_tup Tx.f_tuple (by decide +kernel) (pda_cons (pd_blt (cd_sorted hr.units) Tx.f_sorted (by decide +kernel) (pda_cons (pd_lst (pda_cons (pd_sub (ixd (hu_of hr)) (pd_var 9 (pv 9)) pd_int) (pda_cons (pd_sub (ixd (hu_of hr)) (pd_var 10 (pv 10)) pd_int) pda_nil))) pda_nil)) pda_nil)) pda_nil)))) pdss_nil))))))
  (pdss_cons (pds_asg (pd_btt cd_list Tx.f_list (by decide +kernel) (pda_cons (pd_var 3 (pv 3)) pda_nil)) (pdg_name (i := 11) nd rfl (by first | exact Or.inl rfl | exact Or.inr rfl)))
  (pdss_one (pds_for poD rfl (pdi_range1 rfl Tx.f_range pd_int) (pdg_name (i := 12) nd rfl (by first | exact Or.inl rfl | exact Or.inr rfl)) (pdss_cons (pds_asg (pd_fn F_clashes hr psD (pda_cons (pd_var 3 (pv 3)) (pda_cons (pd_var 4 (pv 4)) pda_nil))) (pdg_name (i := 13) nd rfl (by first | exact Or.inl rfl | exact Or.inr rfl)))
  (pdss_cons (pds_if (PDW.pdt (pdw_or (pdt_not (pdt_val (pd_fn F__law_alike hr psD (pda_cons (pd_var 13 (pv 13)) (pda_cons (pd_blt (cd_sorted hr.units) Tx.f_sorted (by decide +kernel) (pda_cons (pd_var 5 (pv 5)) pda_nil)) pda_nil))))) (pdw_or1 (pdt_cp (od_ne hr.units) (pd_var 3 (pv 3)) (pd_var 11 (pv 11)))))) (pdss_one (pds_ret pd_bl)) pdss_nil)
  (pdss_one (pds_expr (pd_bm PySem.F.plainAttrs_list PySem.F.slot_list_append PySem.F.type_list_append md_append (pd_var 13 (pv 13)) (pda_cons (pd_tup pda_nil) pda_nil)))))))))))))))
  (pdss_one (pds_ret (pd_cp (od_eq hr.units) (pd_fn F_clashes hr psD (pda_cons (pd_lst pda_nil) (pda_cons pd_int pda_nil))) (pd_lst pda_nil))))))
end K15
/-! ### k15: times_of, by its reading -/
namespace K15
open PySem PySem.Spec PyProof.Rows L2 Cc
open PySem.W (dataLe EachIs AllAlike Sortable)
local macro_rules | `(tactic| walk_at "rd") => `(tactic| try simp only [sSeq, sIf, sAsg, sRet, sRetN, sDrop, sNext, gN, gT, gsCons, gsNil, gsNames, D.tl, dTest, dAnd, dOr, dNot, dAndV, dOrV, dNotV, dIf, dOp, dUn, dVar, dC, dCons, dNil, dCB, dTup, dLst, blD_bl, dEq_int, dNe_int, dLt, dLe, dGt, dGe, dMod, dFdiv, dIsN, dNotN, D.isN, dAbs, List.getElem?_cons_zero, List.getElem?_cons_succ, List.set_cons_zero, List.set_cons_succ, List.length_cons, List.length_nil, decide_eq_true_eq, if_true, if_false, Bool.false_eq_true, ite_true, ite_false, true_and, and_true])
/-- words of a hand, as references -/
def fG (me : Int) : D → Option D := fun d => match d with
  | .tup [.int h, _, w] => if h = me then some w else none
  | _ => none
theorem fG_each {G : DH} {me : Int} : ∀ {lg : List D} {gus : List Gu}, EachIs (GuAt G) lg gus → EachIs (fun d (g : Gu) => ∃ w, d = .ref w ∧ G w = some (.lst (g.words.map .str))) (lg.filterMap (fG me)) (gus.filter fun g => decide (g.hand = me))
  | _, _, .nil => .nil
  | _, _, .cons (b := g) ⟨w, e, h⟩ t => by
    subst e
    rw [List.filterMap_cons, List.filter_cons]
    have ih := fG_each (me := me) t
    by_cases hh : g.hand = me
    · have e1 : fG me (.tup [.int g.hand, oD g.by_, .ref w]) = some (.ref w) := if_pos hh
      rw [e1, decide_eq_true hh, if_pos rfl]
      exact .cons ⟨w, rfl, h⟩ ih
    · have e1 : fG me (.tup [.int g.hand, oD g.by_, .ref w]) = none := if_neg hh
      rw [e1, decide_eq_false hh, if_neg Bool.false_ne_true]
      exact ih
theorem sub_new2 {G G' : DH} {p : Addr} {c : C} (s : Sub G G') (n : G' p = none) : Sub G (updD G' p c) := s.trans (Sub.new n)
def b_off : DE := dAndV (dOp dNe (dVar 10) (dLst dNil)) (dOp dIn (dOp dIx (dOp dIx (dVar 10) (dC (.int 0))) (dVar 13)) (dC (.tup [(.str "no"), (.str "passed")])))
theorem eqv_list_nil (xs : List PyData) : PyData.eqv (.list xs) (.list []) = xs.isEmpty := by
  cases xs <;> simp [PyData.eqv, PyData.eqvAll]
theorem pure_isoff {G : DH} {Gb : DH} {me : Int} {m : Me} {lg : List D} {D0 : Addr} {k : Nat} {δ : DS} {R : DK} {EX : DX} (hm : m.Ok) (hg : EachIs (GuAt Gb) lg m.gus) (s : Sub Gb G) (hD : G D0 = some (.lst (lg.filterMap (fG me)))) (h10 : δ[10]? = some (some (.ref D0))) (h13 : δ[13]? = some (some (.int (k : Int))))
    (hk : ∀ g ∈ m.gus, k < g.words.length) (q : ∀ p, G p = none → R (.bl (off m k me)) (updD G p (.lst []))) : b_off δ G R EX := by
  have ew := fG_each (me := me) hg
  have hone := hm.one me
  unfold b_off
  simp only [dAndV, dOp, dVar, h10, h13, dLst, dNil, dC]
  refine ⟨Nat.zero_le _, fun p hp => ?_⟩
  have hD' : updD G p (.lst []) D0 = some (.lst (lg.filterMap (fG me))) := keep_upd hD hp
  have rD : Rdd (updD G p (.lst [])) (.ref D0) (.list ((m.gus.filter fun g => decide (g.hand = me)).map fun g => .list (g.words.map .str))) :=
    .lst hD' (rdd_each (fun a g ⟨w, e, z⟩ => by subst e; exact .lst (keep_upd (s _ _ z) hp) (rdd_map fun x _ => .str x)) ew)
  have shp : SeqAt.shaped (.list ((m.gus.filter fun g => decide (g.hand = me)).map fun g => .list (g.words.map .str))) = true := by
    refine shaped_by ?_ ?_
    · rw [PyData.canLay0]
      refine lay_map fun g hg => ?_
      rw [PyData.canLay0]
      exact lay_map fun x hx => (hm.gus g (List.mem_filter.mp hg).1).txt x hx
    · rw [PyData.depth]
      have : PyData.depthAll ((m.gus.filter fun g => decide (g.hand = me)).map fun g => PyData.list (g.words.map .str)) ≤ 1 := dep_map fun g hg => by
        rw [PyData.depth]
        have : PyData.depthAll (g.words.map .str) ≤ 0 := dep_map fun x _ => by simp [PyData.depth]
        omega
      omega
  refine ⟨_, _, rD, .lst updD_same .nil, shp, by decide, ?_⟩
  rw [eqv_list_nil]
  have qp := q p hp
  unfold off at qp
  cases hf : m.gus.filter fun g => decide (g.hand = me) with
  | nil =>
    rw [hf] at qp
    exact qp
  | cons g gs =>
    rw [hf] at ew hone qp
    have hgs : gs = [] := by
      rw [List.length_cons] at hone
      exact List.eq_nil_of_length_eq_zero (by omega)
    subst hgs
    obtain ⟨_, _, e1, _, _⟩ := (show ∃ a as, lg.filterMap (fG me) = a :: as ∧ as = [] ∧ True from by
      cases h : lg.filterMap (fG me) with
      | nil => rw [h] at ew; cases ew
      | cons a as =>
        rw [h] at ew
        cases ew with
        | cons _ t => cases t; exact ⟨a, [], rfl, rfl, trivial⟩)
    rw [e1] at ew hD'
    cases ew with
    | cons hw t =>
      obtain ⟨w, rfl, hw⟩ := hw
      have hgm : g ∈ m.gus := (List.mem_filter.mp (show g ∈ m.gus.filter fun g => decide (g.hand = me) from by rw [hf]; exact List.mem_cons_self)).1
      have hkl := hk g hgm
      have ek : g.words[k]? = some g.words[k] := List.getElem?_eq_getElem hkl
      dsimp only at qp
      rw [ek] at qp
      simp only [List.map_cons, List.isEmpty_cons, Bool.not_false, blD_bl, if_true]
      refine ix_at hD' atI_0 ?_
      refine ix_seqd (l := g.words.map .str) ?_ (atI_nat (i := k) (x := .str g.words[k]) (by rw [List.getElem?_map, ek]; rfl)) ?_
      · unfold seqOf
        dsimp only
        rw [keep_upd (s _ _ hw) hp]
      · have e2 : inOf (updD G p (.lst [])) (.str g.words[k]) (.tup [.str "no", .str "passed"]) = some (decide (g.words[k] = "no") || decide (g.words[k] = "passed")) := by
          show (if (D.flat (.str g.words[k]) && [D.str "no", D.str "passed"].all D.flat) = true then some (inF (.str g.words[k]) [.str "no", .str "passed"]) else none) = _
          refine (if_pos (by rfl)).trans ?_
          simp only [inF, List.any_cons, List.any_nil, eqF, Bool.or_false]
          congr 1
          congr 1
          · exact Bool.eq_iff_iff.mpr ⟨fun h => decide_eq_true (eq_of_beq h).symm, fun h => by rw [of_decide_eq_true h]; exact beq_self_eq_true _⟩
          · exact Bool.eq_iff_iff.mpr ⟨fun h => decide_eq_true (eq_of_beq h).symm, fun h => by rw [of_decide_eq_true h]; exact beq_self_eq_true _⟩
        unfold dIn
        rw [e2]
        exact qp
theorem timesM_snoc {B1 : List Me} {m : Me} {me : Int} : timesM (B1 ++ [m]) me = timesM B1 me ++ m.mos.filterMap (mT m me) := by
  unfold timesM
  rw [List.flatMap_append, List.flatMap_cons, List.flatMap_nil, List.append_nil]
theorem pure_times_of (ds : List D) (G : DH) (R : DK) (EX : DX) (h : sd_times_of ds G R EX) : b_times_of (endsD (frg R) EX) (startD N_times_of ds) G := by
  obtain ⟨x, me, B, rfl, hB, ok, q⟩ := h
  obtain ⟨a, l, rfl, ha, hl⟩ := hB
  show b_times_of (endsD (frg R) EX) [some (.ref a), some (.int me), none, none, none, none, none, none, none, none, none, none, none, none, none, none, none] G
  unfold b_times_of
  walk_at "rd"
  refine ⟨Nat.zero_le _, fun f hf => ?_⟩
  unfold sFor
  refine iSq_cell rfl (keep_upd ha hf) ?_
  have lenB := times_len ok (me := me)
  refine goFor_by (fun xs δ Gc => (∃ o3 o4 o5 o6 o7 o8 o9 o10 o11 o12 o13 o14 o15 o16, δ = [some (.ref a), some (.int me), some (.ref f), o3, o4, o5, o6, o7, o8, o9, o10, o11, o12, o13, o14, o15, o16]) ∧
    ∃ B1 B2, B = B1 ++ B2 ∧ EachIs (MeAt G) xs B2 ∧ Sub G Gc ∧ Gc f = some (.lst ((timesM B1 me).map T5.d))) (fun xs δ Gc ⟨_, B1, B2, _, _, s, _⟩ => s _ _ ha) (fun δ Gc ⟨⟨o3, o4, o5, o6, o7, o8, o9, o10, o11, o12, o13, o14, o15, o16, e⟩, B1, B2, eB, hx, s, hF⟩ => ?_) (fun d xs δ Gc N ⟨⟨o3, o4, o5, o6, o7, o8, o9, o10, o11, o12, o13, o14, o15, o16, e⟩, B1, B2, eB, hx, s, hF⟩ hN => ?_) l _ _ ⟨⟨none, none, none, none, none, none, none, none, none, none, none, none, none, none, rfl⟩, [], B, rfl, hl, Sub.new hf, updD_same⟩
  · subst e
    have e2 := each_nil hx
    subst e2
    rw [List.append_nil] at eB
    subst eB
    walk_at "rd"
    refine sorted_map (l := timesM B me) (f := T5.d) (g := T5.p) hF (fun t _ => .tup rfl (.cons (.int _) (.cons (.int _) (.cons (.int _) (.cons (.int _) (.cons (.int _) .nil)))))) (fun t u => by simp [T5.p, PySem.W.alike, PySem.W.alikeAll]) (.tuples fun t => ⟨_, _, rfl⟩) (fun t _ => by simp [T5.p, PyData.depth, PyData.depthAll]) (by rw [sizeLine_eq]; omega) fun p hp => ?_
    exact ⟨_, Sub.updD s, q p (s.fresh hp)⟩
  · subst e
    obtain ⟨m, B2', rfl, hm, hx'⟩ := each_cons hx
    obtain ⟨pp, qq, lg, rfl, hp, hq, hg⟩ := hm
    have okm := ok.me m (by rw [eB]; simp)
    walk_at "rd"
    refine ?_
    simp only [dLc]
    refine iSq_cell rfl (s _ _ hq) fun D0 hD0 => ?_
    have nDf : D0 ≠ f := fun z => by rw [z, hF] at hD0; cases hD0
    refine goLc_map (fG me) lg (by rw [hg.length, sizeLine_eq]; have := okm.fewG; omega) (fun acc => keep_upd (s _ _ hq) hD0) ?_ fun y hy acc M hacc hM => ?_
    · refine iSq_cell rfl (keep_upd (s _ _ hp) hD0) ?_
      have base : Sub G (updD Gc D0 (.lst (lg.filterMap (fG me)))) := sub_new2 s hD0
      refine goFor_by (fun xs δ Gd => (∃ o11 o12 o13 o14 o15 o16, δ = [some (.ref a), some (.int me), some (.ref f), some (.int m.h), some (.int m.n), some (.int m.v), some (.str ""), some (.int m.long), some (.ref pp), some (.ref qq), some (.ref D0), o11, o12, o13, o14, o15, o16]) ∧
        ∃ M1 M2, m.mos = M1 ++ M2 ∧ xs = M2.map Mo.d ∧ Sub G Gd ∧ Gd D0 = some (.lst (lg.filterMap (fG me))) ∧ Gd f = some (.lst ((timesM B1 me ++ M1.filterMap (mT m me)).map T5.d))) (fun xs δ Gd ⟨_, M1, M2, _, _, s', _⟩ => s' _ _ hp) (fun δ Gd ⟨⟨o11, o12, o13, o14, o15, o16, e⟩, M1, M2, eM, ex, s', hD', hF'⟩ => ?_) (fun d xs δ Gd N' ⟨⟨o11, o12, o13, o14, o15, o16, e⟩, M1, M2, eM, ex, s', hD', hF'⟩ hN' => ?_) _ _ _ ⟨⟨_, _, _, _, _, _, rfl⟩, [], m.mos, rfl, rfl, base, updD_same, by rw [List.filterMap_nil, List.append_nil, updD_ne (Ne.symm nDf)]; exact hF⟩
      · subst e
        have e2 : M2 = [] := by
          cases M2 with
          | nil => rfl
          | cons => cases ex
        subst e2
        rw [List.append_nil] at eM
        subst eM
        refine hN _ _ ⟨⟨_, _, _, _, _, _, _, _, _, _, _, _, _, _, rfl⟩, B1 ++ [m], B2', by rw [eB]; simp, hx', s', ?_⟩
        rw [timesM_snoc]
        exact hF'
      · subst e
        cases M2 with
        | nil => cases ex
        | cons mo M2 =>
          cases ex
          have hmo : mo ∈ m.mos := by rw [eM]; simp
          unfold Mo.d
          simp only [gT, gsCons, gsNil, gN, D.tl, List.length_cons, List.length_nil, List.set_cons_zero, List.set_cons_succ, sSeq, sAsg]
          refine ⟨trivial, trivial, ?_⟩
          refine pure_isoff (m := m) (k := mo.k) (me := me) okm hg s' hD' rfl rfl (fun g hgm => okm.ks mo hmo g hgm) fun p hp' => ?_
          walk_at "rd"
          have s2 : Sub G (updD Gd p (.lst [])) := sub_new2 s' hp'
          have hD2 := keep_upd (c := .lst []) hD' hp'
          have hF2 := keep_upd (c := .lst []) hF' hp'
          have next : ∀ G2, mT m me mo = none → G2 = updD Gd p (.lst []) → ∀ o16', N' [some (.ref a), some (.int me), some (.ref f), some (.int m.h), some (.int m.n), some (.int m.v), some (.str ""), some (.int m.long), some (.ref pp), some (.ref qq), some (.ref D0), o11, o12, some (.int (mo.k : Int)), some (oD mo.beg), some (.int mo.often), o16'] G2 := fun G2 e1 e2 o16' => by
            subst e2
            refine hN' _ _ ⟨⟨_, _, _, _, _, _, rfl⟩, M1 ++ [mo], M2, by rw [eM]; simp, rfl, s2, hD2, ?_⟩
            rw [List.filterMap_append, List.filterMap_cons, e1, List.filterMap_nil, List.append_nil]
            exact hF2
          cases hb : mo.beg with
          | none =>
            simp only [oD]
            walk_at "rd"
            have e1 : mT m me mo = none := by unfold mT; rw [hb]
            have z := next _ e1 rfl (some (.bl (off m mo.k me)))
            rw [hb] at z
            simp only [Bool.not_true, Bool.false_eq_true, if_false]
            exact z
          | some b =>
            simp only [oD]
            walk_at "rd"
            simp only [Bool.not_false, if_true]
            cases ho : off m mo.k me with
            | true =>
              have e1 : mT m me mo = none := by unfold mT; rw [hb, ho]; rfl
              have z := next _ e1 rfl (some (.bl (off m mo.k me)))
              rw [hb, ho] at z
              simp only [Bool.not_true, Bool.false_eq_true, if_false]
              exact z
            | false =>
              have e1 : mT m me mo = some ⟨b, b + m.long, ⟨m.h, m.n, mo.k⟩⟩ := by unfold mT; rw [hb, ho]; rfl
              have fl : (timesM B1 me ++ M1.filterMap (mT m me)).length < sizeLine := by
                have e3 : timesM B me = (timesM B1 me ++ M1.filterMap (mT m me)) ++ ((mo :: M2).filterMap (mT m me) ++ timesM B2' me) := by
                  rw [eB]
                  unfold timesM
                  rw [List.flatMap_append, List.flatMap_cons, eM, List.filterMap_append]
                  simp only [List.append_assoc]
                rw [e3, List.length_append] at lenB
                rw [sizeLine_eq]
                omega
              simp only [Bool.not_false, if_true, dBM]
              walk_at "rd"
              refine ⟨by unfold tyR; simp only [hF2], ?_⟩
              simp only [mAppend, dAdd]
              refine ⟨by rw [sizeLine_eq]; omega, _, hF2, by rw [List.length_map]; exact fl, ?_⟩
              refine hN' _ _ ⟨⟨_, _, _, _, _, _, rfl⟩, M1 ++ [mo], M2, by rw [eM]; simp, rfl, sub_put s2 hf, by rw [updD_ne nDf]; exact hD2, ?_⟩
              rw [List.filterMap_append, List.filterMap_cons, e1, List.filterMap_nil, ← List.append_assoc, updD_same]
              simp only [List.map_append, List.map_cons, List.map_nil]
              rfl
    · obtain ⟨g, _, w, rfl, hw⟩ := each_mem hg y hy
      simp only [wipeD]
      walk_at "rd"
      refine ?_
      by_cases hh : g.hand = me
      · simp only [fG, hh, if_true] at hM
        simp only [hh, if_true]
        exact ⟨acc, updD_same, hacc, by rw [updD_updD]; exact hM⟩
      · simp only [fG, hh, if_false] at hM
        simp only [hh, if_false]
        exact hM
end K15
/-! ### k15: clashes, by its reading -/
namespace K15
open PySem PySem.Spec PyProof.Rows L2 Cc
open PySem.W (dataLe EachIs AllAlike Sortable)
local macro_rules | `(tactic| walk_at "rd") => `(tactic| try simp only [sSeq, sIf, sAsg, sRet, sRetN, sDrop, sNext, gN, gT, gsCons, gsNil, gsNames, D.tl, dTest, dAnd, dOr, dNot, dAndV, dOrV, dNotV, dIf, dOp, dUn, dVar, dC, dCons, dNil, dCB, dCall, dTup, dLst, blD_bl, dEq_int, dNe_int, dLt, dLe, dGt, dGe, dMod, dFdiv, dIsN, dNotN, D.isN, dAbs, List.getElem?_cons_zero, List.getElem?_cons_succ, List.set_cons_zero, List.set_cons_succ, List.length_cons, List.length_nil, decide_eq_true_eq, if_true, if_false, Bool.false_eq_true, ite_true, ite_false, true_and, and_true])
def enumF : Int → List D → List D
  | _, [] => []
  | i, x :: xs => .tup [.int i, x] :: enumF (i + 1) xs
theorem enumF_eq : ∀ (xs : List D) (i : Nat) (l : List D), (∀ j, j < xs.length → l[i + j]? = xs[j]?) → (List.range xs.length).map (fun j => D.tup [.int ((i + j : Nat) : Int), l.getD (i + j) .non]) = enumF i xs
  | [], _, _, _ => rfl
  | x :: xs, i, l, h => by
    rw [List.length_cons, List.range_succ_eq_map, List.map_cons, List.map_map, enumF]
    have h0 := h 0 (by simp)
    rw [Nat.add_zero] at h0
    congr 1
    · rw [Nat.add_zero, List.getD_eq_getElem?_getD, h0]
      rfl
    · have ih := enumF_eq xs (i + 1) l fun j hj => by
        have := h (j + 1) (by simp; omega)
        rw [show i + 1 + j = i + (j + 1) by omega, this]
        rfl
      have e : ((i : Int) + 1) = ((i + 1 : Nat) : Int) := by omega
      rw [e, ← ih]
      refine List.map_congr_left fun j _ => ?_
      show D.tup [.int ((i + (j + 1) : Nat) : Int), l.getD (i + (j + 1)) .non] = _
      rw [show i + (j + 1) = i + 1 + j by omega]
theorem enumD_eq (l : List D) : enumD l = enumF 0 l := by
  have := enumF_eq l 0 l fun j _ => by rw [Nat.zero_add]
  unfold enumD
  rw [show enumF 0 l = enumF ((0 : Nat) : Int) l from rfl, ← this]
  refine List.map_congr_left fun j _ => ?_
  rw [Nat.zero_add]
theorem cut_from {l : List D} {i : Nat} (h : i ≤ l.length) : Cc.cutD l (some (i : Int)) none = l.drop i := by
  unfold Cc.cutD
  rw [HT.sIx_nat, HT.sIx_none, Nat.min_eq_left h]
  rw [List.take_of_length_le]
  rw [List.length_drop]
  omega
theorem tl_cut {t : T5} {G : DH} {R : DK} (q : R t.key.d G) : sSl t.d (some 2) none G R := by
  have e1 : HT.sIx 5 0 (some 2) = 2 := by
    have := HT.sIx_nat (n := 5) (d := 0) (k := 2)
    simpa using this
  unfold sSl T5.d
  simp only [D.tl, List.length_cons, List.length_nil]
  refine ⟨fun h => ?_, fun _ => ?_⟩
  · rw [show (0 + 1 + 1 + 1 + 1 + 1) = 5 from rfl, e1] at h
    exact absurd h.1 (by decide)
  · have := cut_from (l := [D.int t.b, D.int t.e, D.int t.key.h, D.int t.key.n, D.int t.key.k]) (i := 2) (by simp)
    rw [show ((2 : Nat) : Int) = 2 from rfl] at this
    rw [this]
    exact q
theorem d_0 {t : T5} {G : DH} {R : DK} (q : R (.int t.b) G) : dIx t.d (.int 0) G R := ix_seqd (l := [D.int t.b, D.int t.e, D.int t.key.h, D.int t.key.n, D.int t.key.k]) rfl atI_0 q
theorem d_1 {t : T5} {G : DH} {R : DK} (q : R (.int t.e) G) : dIx t.d (.int 1) G R := ix_seqd (l := [D.int t.b, D.int t.e, D.int t.key.h, D.int t.key.n, D.int t.key.k]) rfl atI_1 q
theorem rdd_K3 {G : DH} (x : K3) : Rdd G x.d x.p := .tup rfl (.cons (.int _) (.cons (.int _) (.cons (.int _) .nil)))
theorem rdd_cl {G : DH} (x : Cl) : Rdd G (clD x) (clP x) := .tup rfl (rdd_map fun y _ => rdd_K3 y)
theorem K3.alike (x y : K3) : PySem.W.alike x.p y.p = true := by simp [K3.p, PySem.W.alike, PySem.W.alikeAll]
theorem cl_alike : ∀ x y : Cl, PySem.W.alikeAll (x.map K3.p) (y.map K3.p) = true
  | [], _ => by simp [PySem.W.alikeAll]
  | _ :: _, [] => by simp [PySem.W.alikeAll]
  | x :: xs, y :: ys => by
    rw [List.map_cons, List.map_cons, PySem.W.alikeAll, K3.alike, cl_alike xs ys]
    rfl
theorem K3.dep (x : K3) : x.p.depth ≤ 1 := by simp [K3.p, PyData.depth, PyData.depthAll]
theorem cl_dep (x : Cl) : (clP x).depth ≤ 2 := by
  have : PyData.depthAll (x.map K3.p) ≤ 1 := dep_map fun y _ => y.dep
  unfold clP
  rw [PyData.depth]
  omega
/-- sorted(a list of clashes) -/
theorem sorted_cl {l : List Cl} (h2 : ∀ c ∈ l, c ≠ []) {G : DH} {a : Addr} {R : DK} (h : G a = some (.lst (l.map clD))) (hl : l.length ≤ sizeLine) (q : ∀ p, G p = none → R (.ref p) (updD G p (.lst ((sortC l).map clD)))) : dSorted [.ref a] G R := by
  refine sorted_map (f := clD) (g := clP) h (fun x _ => rdd_cl x) (fun x y => by
    unfold clP
    rw [PySem.W.alike]
    exact cl_alike x y) (.inl fun d hd => ?_) (fun x _ => Nat.le_trans (cl_dep x) (by omega)) hl q
  obtain ⟨c, hc, rfl⟩ := List.mem_map.mp hd
  cases c with
  | nil => exact absurd rfl (h2 _ hc)
  | cons y ys => exact ⟨_, _, rfl⟩
/-- tuple(sorted([x, y])) -/
theorem tup_sorted {x y : K3} {G : DH} {R : DK} {p : Addr} (h : G p = some (.lst [x.d, y.d])) (q : ∀ p', G p' = none → R (clD (two x y)) (updD G p' (.lst ((two x y).map K3.d)))) : dSorted [.ref p] G (fun z G1 => dTupC [z] G1 R) := by
  refine sorted_map (l := [x, y]) (f := K3.d) (g := K3.p) h (fun x _ => rdd_K3 x) K3.alike (.tuples fun t => ⟨_, _, rfl⟩) (fun x _ => Nat.le_trans x.dep (by omega)) (by rw [sizeLine_eq]; simp) fun p' hp' => ?_
  have e : seqOf (updD G p' (.lst ((two x y).map K3.d))) (.ref p') = some ((two x y).map K3.d) := by
    unfold seqOf
    dsimp only
    rw [updD_same]
  have z : (match seqOf (updD G p' (.lst ((two x y).map K3.d))) (.ref p') with
    | some l => R (.tup l) (updD G p' (.lst ((two x y).map K3.d)))
    | none => False) := by
    rw [e]
    exact q p' hp'
  exact z
theorem meet1_ne {x y : T5} {c : Cl} (h : meet1 x y = some c) : c ≠ [] := by
  unfold meet1 at h
  split at h
  · cases h
    intro z
    have := two_len x.key y.key
    rw [z] at this
    cases this
  · cases h
theorem pairs1_ne : ∀ {l : List T5}, ∀ c ∈ pairs1 l, c ≠ []
  | [], _, h => by cases h
  | x :: xs, c, h => by
    unfold pairs1 at h
    rcases List.mem_append.mp h with h | h
    · obtain ⟨y, _, e⟩ := List.mem_filterMap.mp h
      exact meet1_ne e
    · exact pairs1_ne c h
theorem pure_clashes (ds : List D) (G : DH) (R : DK) (EX : DX) (h : sd_clashes ds G R EX) : b_clashes (endsD (frg R) EX) (startD N_clashes ds) G := by
  obtain ⟨x, me, B, rfl, hB, ok, q⟩ := h
  show b_clashes (endsD (frg R) EX) [some x, some (.int me), none, none, none, none, none] G
  unfold b_clashes
  walk_at "rd"
  refine ⟨x, me, B, rfl, hB, ok, fun t ht => ⟨Nat.zero_le _, fun f hf => ?_⟩⟩
  obtain ⟨S, hS⟩ : ∃ S, sortT (timesM B me) = S := ⟨_, rfl⟩
  rw [hS] at hf q ⊢
  have lenS : S.length ≤ 300 := by
    rw [← hS]
    unfold sortT
    rw [List.length_mergeSort]
    exact times_len ok
  have lenP := pairs_few lenS
  have hl := sizeLine_eq
  obtain ⟨hf, nft⟩ := none_up hf
  simp only [sFor, iEnumD]
  walk_at "rd"
  refine ⟨_, keep_upd updD_same (by rw [updD_ne nft]; exact hf), ?_⟩
  rw [enumD_eq]
  have fin : ∀ δ Gc, δ.length = 7 → (∃ o4 o5 o6, δ = [some x, some (.int me), some (.ref t), some (.ref f), o4, o5, o6]) → Sub G Gc → Gc f = some (.lst ((pairs1 S).map clD)) → dVar 3 δ Gc (fun x G1 => dSorted [x] G1 (frg R)) EX := fun δ Gc _ ⟨o4, o5, o6, e⟩ s hF => by
    subst e
    walk_at "rd"
    refine sorted_cl pairs1_ne hF (by omega) fun p hp => ?_
    exact ⟨_, Sub.updD s, q p (s.fresh hp)⟩
  refine goFor_by (fun xs δ Gc => (∃ o4 o5 o6, δ = [some x, some (.int me), some (.ref t), some (.ref f), o4, o5, o6]) ∧ ∃ i : Nat, xs = enumF i ((S.drop i).map T5.d) ∧ i ≤ S.length ∧ Sub G Gc ∧ Gc t = some (.lst (S.map T5.d)) ∧ ∃ acc, Gc f = some (.lst (acc.map clD)) ∧ acc ++ pairs1 (S.drop i) = pairs1 S)
    (fun xs δ Gc ⟨_, i, _, _, _, h, _⟩ => h) (fun δ Gc ⟨o, i, ex, hi, s, hT, acc, hF, ea⟩ => ?_) (fun d xs δ Gc N ⟨⟨o4, o5, o6, e⟩, i, ex, hi, s, hT, acc, hF, ea⟩ hN => ?_) _ _ _
    ⟨⟨none, none, none, rfl⟩, 0, rfl, Nat.zero_le _, (Sub.new ht).trans (Sub.new (by rw [updD_ne nft]; exact hf)), keep_upd updD_same (by rw [updD_ne nft]; exact hf), [], updD_same, rfl⟩
  · have e1 : S.drop i = [] := by
      cases h : S.drop i with
      | nil => rfl
      | cons a b => rw [h] at ex; cases ex
    rw [e1] at ea
    rw [show acc ++ pairs1 [] = acc from List.append_nil _] at ea
    subst ea
    obtain ⟨o4, o5, o6, rfl⟩ := o
    exact fin _ _ rfl ⟨o4, o5, o6, rfl⟩ s hF
  · subst e
    cases hd : S.drop i with
    | nil => rw [hd] at ex; cases ex
    | cons one rest =>
      rw [hd, List.map_cons, enumF] at ex
      cases ex
      have hi' : i < S.length := by
        have := congrArg List.length hd
        rw [List.length_drop, List.length_cons] at this
        omega
      have hd' : S.drop (i + 1) = rest := by
        rw [show i + 1 = i + 1 from rfl, ← List.drop_drop, hd]
        rfl
      walk_at "rd"
      simp only [sFor, iSq, dSl, oSome, oNo]
      walk_at "rd"
      simp only [dAdd, sSl]
      refine ⟨_, hT, fun p hp => ⟨_, updD_same, ?_⟩⟩
      have ecut : Cc.cutD (S.map T5.d) (some ((i : Int) + 1)) none = rest.map T5.d := by
        have := cut_from (l := S.map T5.d) (i := i + 1) (by rw [List.length_map]; omega)
        rw [show ((i + 1 : Nat) : Int) = (i : Int) + 1 by omega] at this
        rw [this, ← List.map_drop, hd']
      rw [ecut]
      have npf : p ≠ f := fun z => by subst z; rw [hF] at hp; cases hp
      refine goFor_by (fun ys δ Gd => (∃ o6, δ = [some x, some (.int me), some (.ref t), some (.ref f), some (.int i), some one.d, o6]) ∧ ∃ Y, ys = Y.map T5.d ∧ Sub G Gd ∧ Gd t = some (.lst (S.map T5.d)) ∧ Gd p = some (.lst (rest.map T5.d)) ∧ ∃ acc, Gd f = some (.lst (acc.map clD)) ∧ acc ++ (Y.filterMap (meet1 one) ++ pairs1 rest) = pairs1 S)
        (fun ys δ Gd ⟨_, Y, _, _, _, h, _⟩ => h) (fun δ Gd ⟨⟨o6, e⟩, Y, eY, s', hT', hp', acc', hF', ea'⟩ => ?_) (fun d ys δ Gd N' ⟨⟨o6, e⟩, Y, eY, s', hT', hp', acc', hF', ea'⟩ hN' => ?_) _ _ _
        ⟨⟨_, rfl⟩, rest, rfl, sub_new2 s hp, keep_upd hT hp, updD_same, acc, keep_upd hF hp, by rw [hd, pairs1] at ea; exact ea⟩
      · subst e
        have : Y = [] := by
          cases Y with
          | nil => rfl
          | cons => cases eY
        subst this
        refine hN _ _ ⟨⟨_, _, _, rfl⟩, i + 1, by rw [hd']; rfl, hi', s', hT', acc', hF', by rw [hd']; exact ea'⟩
      · subst e
        cases Y with
        | nil => cases eY
        | cons y Y =>
          cases eY
          walk_at "rd"
          refine d_0 (d_1 ?_)
          walk_at "rd"
          by_cases hm : y.b < one.e
          · have em : meet1 one y = some (two one.key y.key) := if_pos hm
            rw [if_pos hm]
            rw [List.filterMap_cons, em] at ea'
            simp only [dBM]
            walk_at "rd"
            refine ⟨by unfold tyR; simp only [hF'], ?_⟩
            simp only [dSl, oSome, oNo]
            walk_at "rd"
            refine tl_cut (tl_cut ⟨by rw [hl]; decide, fun p2 hp2 => ?_⟩)
            have hF2 := keep_upd (c := .lst [one.key.d, y.key.d]) hF' hp2
            refine tup_sorted updD_same fun p3 hp3 => ?_
            have hF3 := keep_upd (c := .lst ((two one.key y.key).map K3.d)) hF2 hp3
            have s3 := sub_new2 (c := .lst ((two one.key y.key).map K3.d)) (sub_new2 (c := .lst [one.key.d, y.key.d]) s' hp2) hp3
            have hla : acc'.length < (pairs1 S).length := by
              rw [← ea']
              simp
            refine ⟨_, hF3, by rw [List.length_map]; omega, ?_⟩
            refine hN' _ _ ⟨⟨_, rfl⟩, Y, rfl, sub_put s3 hf, ?_, ?_, acc' ++ [two one.key y.key], by rw [updD_same, List.map_append]; rfl, by rw [List.append_assoc]; exact ea'⟩
            · rw [updD_ne (Ne.symm nft)]
              exact keep_upd (keep_upd hT' hp2) hp3
            · rw [updD_ne npf]
              exact keep_upd (keep_upd hp' hp2) hp3
          · have em : meet1 one y = none := if_neg hm
            rw [if_neg hm]
            rw [List.filterMap_cons, em] at ea'
            exact hN' _ _ ⟨⟨_, rfl⟩, Y, rfl, s', hT', hp', acc', hF', ea'⟩
end K15
/-! ### k15: the law's own look, by its reading -/
namespace K15
open PySem PySem.Spec PyProof.Rows L2 Cc
open PySem.W (dataLe EachIs AllAlike Sortable)
local macro_rules | `(tactic| walk_at "rd") => `(tactic| try simp only [sSeq, sIf, sAsg, sRet, sRetN, sDrop, sNext, gN, gT, gsCons, gsNil, gsNames, D.tl, dTest, dAnd, dOr, dNot, dAndV, dOrV, dNotV, dIf, dOp, dUn, dVar, dC, dCons, dNil, dCB, dCall, dTup, dLst, blD_bl, dEq_int, dNe_int, dLt, dLe, dGt, dGe, dMod, dFdiv, dIsN, dNotN, D.isN, dAbs, List.getElem?_cons_zero, List.getElem?_cons_succ, List.set_cons_zero, List.set_cons_succ, List.length_cons, List.length_nil, decide_eq_true_eq, if_true, if_false, Bool.false_eq_true, ite_true, ite_false, true_and, and_true])
def fW (G : DH) (me : Int) (k : Nat) : D → Option D := fun d => match d with
  | .tup [.int h, _, .ref w] => if h = me then (match G w with
    | some (.lst l) => l[k]?
    | _ => none) else none
  | _ => none
def wsK (m : Me) (k : Nat) (me : Int) : List Str := (m.gus.filter fun g => decide (g.hand = me)).filterMap fun g => g.words[k]?
theorem fW_at {G : DH} {me : Int} {k : Nat} {g : Gu} {w : Addr} (h : G w = some (.lst (g.words.map .str))) : fW G me k (.tup [.int g.hand, oD g.by_, .ref w]) = if g.hand = me then g.words[k]?.map .str else none := by
  show (if g.hand = me then (match G w with
    | some (.lst l) => l[k]?
    | _ => none) else none) = _
  rw [h]
  by_cases hh : g.hand = me
  · rw [if_pos hh, if_pos hh]
    dsimp only
    rw [List.getElem?_map]
  · rw [if_neg hh, if_neg hh]
theorem fW_each {G : DH} {me : Int} {k : Nat} : ∀ {lg : List D} {gus : List Gu}, EachIs (GuAt G) lg gus → lg.filterMap (fW G me k) = ((gus.filter fun g => decide (g.hand = me)).filterMap fun g => g.words[k]?).map .str
  | _, _, .nil => rfl
  | _, _, .cons (b := g) ⟨w, e, h⟩ t => by
    subst e
    rw [List.filterMap_cons, fW_at h, List.filter_cons, fW_each t]
    by_cases hh : g.hand = me
    · rw [if_pos hh, decide_eq_true hh, if_pos rfl, List.filterMap_cons]
      cases g.words[k]? <;> rfl
    · rw [if_neg hh, decide_eq_false hh, if_neg Bool.false_ne_true]
theorem eqv_one {z : Str} (l : List Str) : PyData.eqv (.list [.str z]) (.list (l.map .str)) = (match l with
    | [w] => decide (w = z)
    | _ => false) := by
  match l with
  | [] => simp [PyData.eqv, PyData.eqvAll]
  | [w] =>
    simp only [List.map_cons, List.map_nil, PyData.eqv, PyData.eqvAll, Bool.and_true]
    exact Bool.eq_iff_iff.mpr ⟨fun h => decide_eq_true (eq_of_beq h).symm, fun h => by rw [of_decide_eq_true h]; exact beq_self_eq_true _⟩
  | a :: b :: r => simp [PyData.eqv, PyData.eqvAll]
theorem off_eq {m : Me} (hm : m.Ok) {mo : Mo} (hmo : mo ∈ m.mos) (me : Int) : ([PyData.list [.str "no"], PyData.list [.str "passed"]].any fun z => PyData.eqv z (.list ((wsK m mo.k me).map .str))) = off m mo.k me := by
  have hone := hm.one me
  have hk := hm.ks mo hmo
  simp only [List.any_cons, List.any_nil, Bool.or_false, eqv_one]
  unfold off wsK
  cases hf : m.gus.filter fun g => decide (g.hand = me) with
  | nil => rfl
  | cons g gs =>
    rw [hf, List.length_cons] at hone
    have hgs : gs = [] := List.eq_nil_of_length_eq_zero (by omega)
    subst hgs
    have hgm : g ∈ m.gus := (List.mem_filter.mp (show g ∈ m.gus.filter fun g => decide (g.hand = me) from by rw [hf]; exact List.mem_cons_self)).1
    have hkl := hk g hgm
    have ek : g.words[mo.k]? = some g.words[mo.k] := List.getElem?_eq_getElem hkl
    rw [List.filterMap_cons]
    dsimp only
    rw [ek]
    rfl
theorem pure_law_times (ds : List D) (G : DH) (R : DK) (EX : DX) (h : sd__law_times ds G R EX) : b__law_times (endsD (frg R) EX) (startD N__law_times ds) G := by
  obtain ⟨x, me, B, rfl, hB, ok, q⟩ := h
  obtain ⟨a, l, rfl, ha, hl⟩ := hB
  show b__law_times (endsD (frg R) EX) [some (.ref a), some (.int me), none, none, none, none, none, none, none, none, none, none, none, none, none, none] G
  unfold b__law_times
  walk_at "rd"
  refine ⟨Nat.zero_le _, fun f hf => ?_⟩
  unfold sFor
  refine iSq_cell rfl (keep_upd ha hf) ?_
  have lenB := times_len ok (me := me)
  refine goFor_by (fun xs δ Gc => (∃ o3 o4 o5 o6 o7 o8 o9 o10 o11 o12 o13 o14 o15, δ = [some (.ref a), some (.int me), some (.ref f), o3, o4, o5, o6, o7, o8, o9, o10, o11, o12, o13, o14, o15]) ∧
    ∃ B1 B2, B = B1 ++ B2 ∧ EachIs (MeAt G) xs B2 ∧ Sub G Gc ∧ Gc f = some (.lst ((timesM B1 me).map T5.d2))) (fun xs δ Gc ⟨_, B1, B2, _, _, s, _⟩ => s _ _ ha) (fun δ Gc ⟨⟨o3, o4, o5, o6, o7, o8, o9, o10, o11, o12, o13, o14, o15, e⟩, B1, B2, eB, hx, s, hF⟩ => ?_) (fun d xs δ Gc N ⟨⟨o3, o4, o5, o6, o7, o8, o9, o10, o11, o12, o13, o14, o15, e⟩, B1, B2, eB, hx, s, hF⟩ hN => ?_) l _ _ ⟨⟨none, none, none, none, none, none, none, none, none, none, none, none, none, rfl⟩, [], B, rfl, hl, Sub.new hf, updD_same⟩
  · subst e
    have e2 := each_nil hx
    subst e2
    rw [List.append_nil] at eB
    subst eB
    walk_at "rd"
    exact ⟨_, s.up hf hF, q f hf⟩
  · subst e
    obtain ⟨m, B2', rfl, hm, hx'⟩ := each_cons hx
    obtain ⟨pp, qq, lg, rfl, hp, hq, hg⟩ := hm
    have okm := ok.me m (by rw [eB]; simp)
    walk_at "rd"
    refine iSq_cell rfl (s _ _ hp) ?_
    refine goFor_by (fun xs δ Gd => (∃ o10 o11 o12 o13 o14 o15, δ = [some (.ref a), some (.int me), some (.ref f), some (.int m.h), some (.int m.n), some (.int m.v), some (.str ""), some (.int m.long), some (.ref pp), some (.ref qq), o10, o11, o12, o13, o14, o15]) ∧
        ∃ M1 M2, m.mos = M1 ++ M2 ∧ xs = M2.map Mo.d ∧ Sub G Gd ∧ Gd f = some (.lst ((timesM B1 me ++ M1.filterMap (mT m me)).map T5.d2))) (fun xs δ Gd ⟨_, M1, M2, _, _, s', _⟩ => s' _ _ hp) (fun δ Gd ⟨⟨o10, o11, o12, o13, o14, o15, e⟩, M1, M2, eM, ex, s', hF'⟩ => ?_) (fun d xs δ Gd N' ⟨⟨o10, o11, o12, o13, o14, o15, e⟩, M1, M2, eM, ex, s', hF'⟩ hN' => ?_) _ _ _ ⟨⟨_, _, _, _, _, _, rfl⟩, [], m.mos, rfl, rfl, s, by rw [List.filterMap_nil, List.append_nil]; exact hF⟩
    · subst e
      have e2 : M2 = [] := by
        cases M2 with
        | nil => rfl
        | cons => cases ex
      subst e2
      rw [List.append_nil] at eM
      subst eM
      refine hN _ _ ⟨⟨_, _, _, _, _, _, _, _, _, _, _, _, _, rfl⟩, B1 ++ [m], B2', by rw [eB]; simp, hx', s', ?_⟩
      rw [timesM_snoc]
      exact hF'
    · subst e
      cases M2 with
      | nil => cases ex
      | cons mo M2 =>
        cases ex
        have hmo : mo ∈ m.mos := by rw [eM]; simp
        unfold Mo.d
        walk_at "rd"
        simp only [dLc]
        refine iSq_cell rfl (s' _ _ hq) fun D0 hD0 => ?_
        have nDf : D0 ≠ f := fun z => by rw [z, hF'] at hD0; cases hD0
        have hk := okm.ks mo hmo
        refine goLc_map (fW G me mo.k) lg (by rw [hg.length, sizeLine_eq]; have := okm.fewG; omega) (fun acc => keep_upd (s' _ _ hq) hD0) ?_ fun y hy acc M hacc hM => ?_
        · have eW : lg.filterMap (fW G me mo.k) = (wsK m mo.k me).map .str := fW_each hg
          rw [eW]
          have s2 : Sub G (updD Gd D0 (.lst ((wsK m mo.k me).map .str))) := sub_new2 s' hD0
          have hF2 := keep_upd (c := .lst ((wsK m mo.k me).map .str)) hF' hD0
          have next : ∀ G2 o13', mT m me mo = none → Sub G G2 → G2 f = some (.lst ((timesM B1 me ++ M1.filterMap (mT m me)).map T5.d2)) → N' [some (.ref a), some (.int me), some (.ref f), some (.int m.h), some (.int m.n), some (.int m.v), some (.str ""), some (.int m.long), some (.ref pp), some (.ref qq), some (.int (mo.k : Int)), some (oD mo.beg), some (.int mo.often), o13', none, none] G2 := fun G2 o13' e1 s3 h3 => by
            refine hN' _ _ ⟨⟨_, _, _, _, _, _, rfl⟩, M1 ++ [mo], M2, by rw [eM]; simp, rfl, s3, ?_⟩
            rw [List.filterMap_append, List.filterMap_cons, e1, List.filterMap_nil, List.append_nil]
            exact h3
          have next2 : ∀ G2 o13' o14' o15', mT m me mo = none → Sub G G2 → G2 f = some (.lst ((timesM B1 me ++ M1.filterMap (mT m me)).map T5.d2)) → N' [some (.ref a), some (.int me), some (.ref f), some (.int m.h), some (.int m.n), some (.int m.v), some (.str ""), some (.int m.long), some (.ref pp), some (.ref qq), some (.int (mo.k : Int)), some (oD mo.beg), some (.int mo.often), o13', o14', o15'] G2 := fun G2 o13' o14' o15' e1 s3 h3 => by
            refine hN' _ _ ⟨⟨_, _, _, _, _, _, rfl⟩, M1 ++ [mo], M2, by rw [eM]; simp, rfl, s3, ?_⟩
            rw [List.filterMap_append, List.filterMap_cons, e1, List.filterMap_nil, List.append_nil]
            exact h3
          cases hb : mo.beg with
          | none =>
            simp only [oD]
            walk_at "rd"
            have e1 : mT m me mo = none := by unfold mT; rw [hb]
            have z := next2 _ (some (.ref D0)) o14 o15 e1 s2 hF2
            rw [hb] at z
            simp only [Bool.not_true, Bool.false_eq_true, if_false]
            exact z
          | some b =>
            simp only [oD]
            walk_at "rd"
            simp only [Bool.not_false, if_true]
            refine ⟨by rw [sizeLine_eq]; decide, fun p1 hp1 => ⟨by rw [sizeLine_eq]; decide, fun p2 hp2 => ⟨by rw [sizeLine_eq]; decide, ?_⟩⟩⟩
            have s4 := sub_new2 (c := .lst [.str "passed"]) (sub_new2 (c := .lst [.str "no"]) s2 hp1) hp2
            have hF4 := keep_upd (c := .lst [.str "passed"]) (keep_upd (c := .lst [.str "no"]) hF2 hp1) hp2
            have rx : Rdd (updD (updD (updD Gd D0 (.lst ((wsK m mo.k me).map .str))) p1 (.lst [.str "no"])) p2 (.lst [.str "passed"])) (.ref D0) (.list ((wsK m mo.k me).map .str)) := .lst (keep_upd (keep_upd updD_same hp1) hp2) (rdd_map fun x _ => .str x)
            have ry : Rdd (updD (updD (updD Gd D0 (.lst ((wsK m mo.k me).map .str))) p1 (.lst [.str "no"])) p2 (.lst [.str "passed"])) (.tup [.ref p1, .ref p2]) (.tuple [.list [.str "no"], .list [.str "passed"]]) :=
              .tup rfl (.cons (.lst (keep_upd updD_same hp2) (.cons (.str _) .nil)) (.cons (.lst updD_same (.cons (.str _) .nil)) .nil))
            refine ⟨_, _, rx, ry, shaped_by ?_ ?_, by decide +kernel, ?_⟩
            · rw [PyData.canLay0]
              refine lay_map fun z hz => ?_
              obtain ⟨g, hg1, hg2⟩ := List.mem_filterMap.mp hz
              exact (okm.gus g (List.mem_filter.mp hg1).1).txt z (List.mem_of_getElem? hg2)
            · rw [PyData.depth]
              have : PyData.depthAll ((wsK m mo.k me).map PyData.str) ≤ 0 := dep_map fun x _ => by simp [PyData.depth]
              omega
            · rw [off_eq okm hmo me, blD_bl]
              cases ho : off m mo.k me with
              | true =>
                have e1 : mT m me mo = none := by unfold mT; rw [hb, ho]; rfl
                have z := next2 _ (some (.ref D0)) o14 o15 e1 s4 hF4
                rw [hb] at z
                simp only [Bool.xor_true, Bool.not_true, Bool.false_eq_true, if_false]
                exact z
              | false =>
                have e1 : mT m me mo = some ⟨b, b + m.long, ⟨m.h, m.n, mo.k⟩⟩ := by unfold mT; rw [hb, ho]; rfl
                have fl : (timesM B1 me ++ M1.filterMap (mT m me)).length < sizeLine := by
                  have e3 : timesM B me = (timesM B1 me ++ M1.filterMap (mT m me)) ++ ((mo :: M2).filterMap (mT m me) ++ timesM B2' me) := by
                    rw [eB]
                    unfold timesM
                    rw [List.flatMap_append, List.flatMap_cons, eM, List.filterMap_append]
                    simp only [List.append_assoc]
                  rw [e3, List.length_append] at lenB
                  rw [sizeLine_eq]
                  omega
                simp only [Bool.xor_false, if_true, dBM]
                walk_at "rd"
                refine ⟨by unfold tyR; simp only [hF4], ?_⟩
                simp only [mAppend, dAdd]
                refine ⟨by rw [sizeLine_eq]; omega, by rw [sizeLine_eq]; omega, _, hF4, by rw [List.length_map]; exact fl, ?_⟩
                refine hN' _ _ ⟨⟨_, _, _, _, _, _, rfl⟩, M1 ++ [mo], M2, by rw [eM]; simp, rfl, sub_put s4 hf, ?_⟩
                rw [List.filterMap_append, List.filterMap_cons, e1, List.filterMap_nil, ← List.append_assoc, updD_same]
                simp only [List.map_append, List.map_cons, List.map_nil]
                rfl
        · obtain ⟨g, hgm, w, rfl, hw⟩ := each_mem hg y hy
          simp only [wipeD]
          walk_at "rd"
          rw [fW_at hw] at hM
          by_cases hh : g.hand = me
          · have hkl := hk g hgm
            have ek : g.words[mo.k]? = some g.words[mo.k] := List.getElem?_eq_getElem hkl
            rw [if_pos hh, ek] at hM
            simp only [hh, if_true]
            refine ix_seqd (l := g.words.map .str) ?_ (atI_nat (i := mo.k) (x := .str g.words[mo.k]) (by rw [List.getElem?_map, ek]; rfl)) ?_
            · unfold seqOf
              dsimp only
              rw [keep_upd (s' _ _ hw) hD0]
            · exact ⟨acc, updD_same, hacc, by rw [updD_updD]; exact hM⟩
          · rw [if_neg hh] at hM
            simp only [hh, if_false]
            exact hM
end K15
/-! ### k15: the drawn books, by the reading -/
namespace K15
open PySem PySem.Spec PyProof.Rows L2 Cc
open PySem.W (dataLe EachIs AllAlike Sortable)
local macro_rules | `(tactic| walk_at "rd") => `(tactic| try simp only [sSeq, sIf, sAsg, sRet, sRetN, sDrop, sNext, gN, gT, gsCons, gsNil, gsNames, D.tl, dTest, dAnd, dOr, dNot, dAndV, dOrV, dNotV, dIf, dOp, dUn, dVar, dC, dCons, dNil, dCB, dCall, dTup, dLst, blD_bl, dEq_int, dNe_int, dLt, dLe, dGt, dGe, dMod, dFdiv, dIsN, dNotN, D.isN, dAbs, List.getElem?_cons_zero, List.getElem?_cons_succ, List.set_cons_zero, List.set_cons_succ, List.length_cons, List.length_nil, decide_eq_true_eq, if_true, if_false, Bool.false_eq_true, ite_true, ite_false, true_and, and_true])
def Dice (a : Addr) (G : DH) : Prop := ∃ l, G a = some (.lst l) ∧ Draws l
def Same (a : Addr) (G G' : DH) : Prop := ∀ b, b ≠ a → G' b = G b
theorem off_ {a : Addr} {m : Int} {G : DH} {R : DK} {EX : DX} (h : Dice a G) (m0 : 0 < m) (m1 : m < 1073741824) (q : ∀ r G', 0 ≤ r → r < m → Dice a G' → Same a G G' → R (.int r) G') : sd__law_off [.ref a, .int m] G R EX := by
  obtain ⟨l, e, d⟩ := h
  exact ⟨a, m, l, rfl, e, d, m0, m1, fun r l' h0 h1 d' => q r _ h0 h1 ⟨l', updD_same, d'⟩ fun b hb => updD_ne hb⟩
/-- the state: the draws at a; what is kept, Gb -/
structure St (a : Addr) (Gb G : DH) : Prop where
  d : Dice a G
  s : Sub Gb G
  na : Gb a = none
theorem St.same {a : Addr} {Gb G G' : DH} (h : St a Gb G) (d : Dice a G') (s : Same a G G') : St a Gb G' := ⟨d, fun b c e => by
  have ne : b ≠ a := fun z => by subst z; rw [h.na] at e; cases e
  rw [s b ne]
  exact h.s b c e, h.na⟩
theorem St.ne {a p : Addr} {Gb G : DH} (h : St a Gb G) (n : G p = none) : p ≠ a := fun z => by
  subst z
  obtain ⟨l, e, _⟩ := h.d
  rw [n] at e
  cases e
theorem Dice.upd {a p : Addr} {G : DH} {c : C} (h : Dice a G) (n : p ≠ a) : Dice a (updD G p c) := by
  obtain ⟨l, e, d⟩ := h
  exact ⟨l, by rw [updD_ne (Ne.symm n)]; exact e, d⟩
/-- a new cell, kept from now on -/
theorem St.new {a p : Addr} {Gb G : DH} {c : C} (h : St a Gb G) (n : G p = none) : St a (updD Gb p c) (updD G p c) :=
  ⟨h.d.upd (h.ne n), h.s.updD, by rw [updD_ne (Ne.symm (h.ne n))]; exact h.na⟩
theorem St.new0 {a p : Addr} {Gb G : DH} {c : C} (h : St a Gb G) (n : G p = none) : St a Gb (updD G p c) := ⟨h.d.upd (h.ne n), sub_new2 h.s n, h.na⟩
/-- a kept cell is written -/
theorem St.put {a p : Addr} {Gb G : DH} {c c0 : C} (h : St a Gb G) (e : Gb p = some c0) : St a (updD Gb p c) (updD G p c) := by
  have ne : p ≠ a := fun z => by subst z; rw [h.na] at e; cases e
  exact ⟨h.d.upd ne, h.s.updD, by rw [updD_ne (Ne.symm ne)]; exact h.na⟩
theorem St.at {a p : Addr} {Gb G : DH} {c : C} (h : St a Gb G) (e : Gb p = some c) : G p = some c := h.s _ _ e
theorem St.fresh {a p : Addr} {Gb G : DH} (h : St a Gb G) (n : G p = none) : Gb p = none := h.s.fresh n
theorem four {r : Int} (h0 : 0 ≤ r) (h1 : r < 4) (x0 x1 x2 x3 : D) : ∃ d ∈ [x0, x1, x2, x3], L2.atI [x0, x1, x2, x3] r = some d := atI_mem h0 (by simpa using h1)
def momS : DSt := sFor (iRange1 (dVar 4)) (gN 6) (sSeq (sAsg (dOp dIx (dLst (dCons (dCall sd__law_off (dCons (dVar 0) (dCons (dC (.int 30)) dNil))) (dCons (dCall sd__law_off (dCons (dVar 0) (dCons (dC (.int 30)) dNil))) (dCons (dC .non) (dCons (dCall sd__law_off (dCons (dVar 0) (dCons (dC (.int 1000)) dNil))) dNil))))) (dCall sd__law_off (dCons (dVar 0) (dCons (dC (.int 4)) dNil)))) (gN 7))
  (sDrop (dBM "list" mAppend (dVar 5) (dCons (dTup (dCons (dVar 6) (dCons (dVar 7) (dCons (dCall sd__law_off (dCons (dVar 0) (dCons (dC (.int 3)) dNil))) dNil)))) dNil))))
theorem mom_ok {a p : Addr} {Gb G : DH} {Dn : DEnds} {x1 x2 x3 o6 o7 o8 o9 o10 o11 : Option D} {c : Nat} (st : St a Gb G) (hp : Gb p = some (.lst [])) (hc : c ≤ 5)
    (hN : ∀ o6 o7 (mos : List Mo) G', St a (updD Gb p (.lst (mos.map Mo.d))) G' → mos.length = c → (∀ mo ∈ mos, mo.k < c) → Dn.nx [some (.ref a), x1, x2, x3, some (.int (c : Int)), some (.ref p), o6, o7, o8, o9, o10, o11] G') :
    momS Dn [some (.ref a), x1, x2, x3, some (.int (c : Int)), some (.ref p), o6, o7, o8, o9, o10, o11] G := by
  unfold momS
  simp only [sFor, iRange1]
  walk_at "rd"
  refine ⟨⟨by omega, by omega⟩, ?_⟩
  rw [Int.toNat_natCast]
  have hst : St a (updD Gb p (.lst (([] : List Mo).map Mo.d))) G := by
    have e : updD Gb p (.lst (([] : List Mo).map Mo.d)) = Gb := by
      funext b
      by_cases hb : b = p
      · subst hb
        rw [updD_same, hp]
        rfl
      · rw [updD_ne hb]
    rw [e]
    exact st
  refine goFor_by (fun xs δ Gc => (∃ o6 o7, δ = [some (.ref a), x1, x2, x3, some (.int (c : Int)), some (.ref p), o6, o7, o8, o9, o10, o11]) ∧ ∃ mos : List Mo, xs = rangeD (mos.length : Nat) (c - mos.length) ∧ mos.length ≤ c ∧ (∀ mo ∈ mos, mo.k < c) ∧ St a (updD Gb p (.lst (mos.map Mo.d))) Gc)
    (fun _ _ _ _ => trivial) (fun δ Gc ⟨⟨o6, o7, e⟩, mos, ex, hl, hk, st'⟩ => ?_) (fun d xs δ Gc N ⟨⟨o6, o7, e⟩, mos, ex, hl, hk, st'⟩ hM => ?_) _ _ _ ⟨⟨o6, o7, rfl⟩, [], rfl, Nat.zero_le _, (fun _ h => by cases h), hst⟩
  · subst e
    have : c - mos.length = 0 := by
      have := congrArg List.length ex
      rw [rangeD_len] at this
      simpa using this.symm
    exact hN _ _ mos Gc st' (by omega) hk
  · subst e
    obtain ⟨n, hn⟩ : ∃ n, c - mos.length = n + 1 := by
      have := congrArg List.length ex
      rw [rangeD_len, List.length_cons] at this
      exact ⟨xs.length, by omega⟩
    rw [hn, rangeD_succ] at ex
    cases ex
    walk_at "rd"
    refine off_ st'.d (by omega) (by omega) fun r1 G1 a1 b1 d1 s1 => ?_
    have st1 := st'.same d1 s1
    refine off_ st1.d (by omega) (by omega) fun r2 G2 a2 b2 d2 s2 => ?_
    have st2 := st1.same d2 s2
    refine off_ st2.d (by omega) (by omega) fun r3 G3 a3 b3 d3 s3 => ?_
    have st3 := st2.same d3 s3
    refine ⟨by rw [sizeLine_eq]; decide, fun p1 hp1 => ?_⟩
    have st4 := st3.new0 (c := .lst [.int r1, .int r2, .non, .int r3]) hp1
    have n1 := st3.ne hp1
    refine off_ st4.d (by omega) (by omega) fun r4 G4 a4 b4 d4 s4 => ?_
    have st5 := st4.same d4 s4
    have e1 : G4 p1 = some (.lst [.int r1, .int r2, .non, .int r3]) := by rw [s4 _ n1]; exact updD_same
    obtain ⟨dd, hm, hi⟩ := four a4 b4 (.int r1) (.int r2) .non (.int r3)
    obtain ⟨bg, hbg⟩ : ∃ bg : Option Int, dd = oD bg := by
      simp only [List.mem_cons, List.not_mem_nil, or_false] at hm
      rcases hm with rfl | rfl | rfl | rfl
      · exact ⟨some r1, rfl⟩
      · exact ⟨some r2, rfl⟩
      · exact ⟨none, rfl⟩
      · exact ⟨some r3, rfl⟩
    subst hbg
    refine ix_at e1 hi ?_
    simp only [dBM]
    walk_at "rd"
    have hpp : G4 p = some (.lst (mos.map Mo.d)) := st5.at updD_same
    refine ⟨by unfold tyR; simp only [hpp], ?_⟩
    refine off_ st5.d (by omega) (by omega) fun r5 G5 a5 b5 d5 s5 => ?_
    have st6 := st5.same d5 s5
    refine ⟨by rw [sizeLine_eq]; decide, ?_⟩
    simp only [mAppend]
    refine ⟨_, st6.at updD_same, by rw [List.length_map, sizeLine_eq]; omega, ?_⟩
    refine hM _ _ ⟨⟨_, _, rfl⟩, mos ++ [(⟨mos.length, bg, r5⟩ : Mo)], ?_, ?_, ?_, ?_⟩
    · rw [List.length_append, List.length_cons, List.length_nil, show c - (mos.length + (0 + 1)) = n by omega]
      congr 1
    · rw [List.length_append, List.length_cons, List.length_nil]
      omega
    · intro mo hmo
      rcases List.mem_append.mp hmo with h | h
      · exact hk mo h
      · rw [List.mem_singleton] at h
        subst h
        show mos.length < c
        omega
    · have z := st6.put (p := p) (c := .lst ((mos ++ [(⟨mos.length, bg, r5⟩ : Mo)]).map Mo.d)) updD_same
      rw [updD_updD] at z
      rw [List.map_append] at z ⊢
      exact z
end K15
/-! ### k15: the drawn guests, by the reading -/
namespace K15
open PySem PySem.Spec PyProof.Rows L2 Cc
open PySem.W (dataLe EachIs AllAlike Sortable)
local macro_rules | `(tactic| walk_at "rd") => `(tactic| try simp only [sSeq, sIf, sAsg, sRet, sRetN, sDrop, sNext, gN, gT, gsCons, gsNil, gsNames, D.tl, dTest, dAnd, dOr, dNot, dAndV, dOrV, dNotV, dIf, dOp, dUn, dVar, dC, dCons, dNil, dCB, dCall, dTup, dLst, blD_bl, dEq_int, dNe_int, dLt, dLe, dGt, dGe, dMod, dFdiv, dIsN, dNotN, D.isN, dAbs, List.getElem?_cons_zero, List.getElem?_cons_succ, List.set_cons_zero, List.set_cons_succ, List.length_cons, List.length_nil, decide_eq_true_eq, if_true, if_false, Bool.false_eq_true, ite_true, ite_false, true_and, and_true])
theorem updD_comm {G : DH} {a b : Addr} {c d : C} (h : a ≠ b) : updD (updD G a c) b d = updD (updD G b d) a c := by
  funext x
  unfold updD
  by_cases h1 : x = a
  · by_cases h2 : x = b
    · exact absurd (h1.symm.trans h2) h
    · rw [if_neg h2, if_pos h1, if_pos h1]
  · by_cases h2 : x = b
    · rw [if_pos h2, if_neg h1, if_pos h2]
    · rw [if_neg h2, if_neg h1, if_neg h1, if_neg h2]
theorem St.le {a : Addr} {Gb Gb' G : DH} (h : St a Gb G) (s : Sub Gb' Gb) : St a Gb' G := ⟨h.d, s.trans h.s, s.fresh h.na⟩
def handsE : DE := dLc (iRange1 (dC (.int 4))) (gN 10) (dAnd (dTest (dOp dNe (dVar 10) (dVar 3))) (dTest (dOp dEq (dCall sd__law_off (dCons (dVar 0) (dCons (dC (.int 2)) dNil))) (dC (.int 0))))) (dVar 10) [10]
theorem hands_ok {a : Addr} {Gb G : DH} {R : DK} {EX : DX} {h : Int} {x1 x2 x4 x5 x6 x7 x8 x9 x10 x11 : Option D} (st : St a Gb G)
    (q : ∀ D0 (hs : List Int) G', Gb D0 = none → D0 ≠ a → G D0 = none → St a (updD Gb D0 (.lst (hs.map D.int))) G' → hs.Pairwise (· < ·) → hs.length ≤ 4 → R (.ref D0) G') :
    handsE [some (.ref a), x1, x2, some (.int h), x4, x5, x6, x7, x8, x9, x10, x11] G R EX := by
  unfold handsE
  simp only [dLc, iRange1]
  walk_at "rd"
  refine ⟨⟨by omega, by omega⟩, fun D0 hD0 => ?_⟩
  have nb := st.fresh hD0
  have nda := st.ne hD0
  simp only [wipeD]
  walk_at "rd"
  refine goLc_by (fun xs Gc => ∃ (hs : List Int) (i n : Nat), St a (updD Gb D0 (.lst (hs.map D.int))) Gc ∧ xs = rangeD (i : Int) n ∧ i + n = 4 ∧ hs.length ≤ i ∧ (∀ z ∈ hs, z < i) ∧ hs.Pairwise (· < ·)) (fun _ _ _ => trivial) (fun Gc ⟨hs, i, n, st', ex, e4, hl, hlt, hp⟩ => ?_) (fun d xs Gc N ⟨hs, i, n, st', ex, e4, hl, hlt, hp⟩ hN => ?_) _ _ ⟨[], 0, 4, st.new hD0, rfl, rfl, Nat.le_refl _, (fun _ h => by cases h), .nil⟩
  · exact q D0 hs Gc nb nda hD0 st' hp (by omega)
  · cases n with
    | zero => cases ex
    | succ n =>
      rw [rangeD_succ] at ex
      cases ex
      walk_at "rd"
      have same : ∀ G', St a (updD Gb D0 (.lst (hs.map D.int))) G' → N G' := fun G' st2 => hN _ ⟨hs, i + 1, n, st2, by rw [show ((i + 1 : Nat) : Int) = (i : Int) + 1 by omega], by omega, by omega, fun z hz => by have := hlt z hz; omega, hp⟩
      by_cases hi : (i : Int) = h
      · simp only [hi, decide_true, Bool.not_true, Bool.false_eq_true, if_false]
        exact same _ st'
      · simp only [hi, decide_false, Bool.not_false, if_true]
        refine off_ st'.d (by omega) (by omega) fun r1 G1 a1 b1 d1 s1 => ?_
        have st1 := st'.same d1 s1
        walk_at "rd"
        by_cases hr : r1 = 0
        · rw [if_pos hr]
          refine ⟨_, st1.at updD_same, by rw [List.length_map, sizeLine_eq]; omega, ?_⟩
          have z := st1.put (p := D0) (c := .lst ((hs ++ [(i : Int)]).map D.int)) updD_same
          rw [updD_updD] at z
          refine hN _ ⟨hs ++ [(i : Int)], i + 1, n, by rw [List.map_append] at z ⊢; exact z, by rw [show ((i + 1 : Nat) : Int) = (i : Int) + 1 by omega], by omega, by rw [List.length_append, List.length_singleton]; omega, fun z hz => ?_, ?_⟩
          · rcases List.mem_append.mp hz with hz | hz
            · have := hlt z hz; omega
            · rw [List.mem_singleton] at hz; omega
          · rw [List.pairwise_append]
            refine ⟨hp, List.pairwise_singleton _ _, fun x hx y hy => ?_⟩
            rw [List.mem_singleton] at hy
            have := hlt x hx
            omega
        · rw [if_neg hr]
          exact same _ st1
def WordOk (w : Str) : Prop := PyData.canLay0 (.str w) = true
def wordsE : DE := dLc (iRange1 (dVar 4)) (gN 6) dYes (dOp dIx (dLst (dCons (dC (.str "asked")) (dCons (dC (.str "yes")) (dCons (dC (.str "no")) (dCons (dC (.str "maybe")) dNil))))) (dCall sd__law_off (dCons (dVar 0) (dCons (dC (.int 4)) dNil)))) [6]
theorem words_ok {a : Addr} {Gb G : DH} {R : DK} {EX : DX} {c : Nat} {x1 x2 x3 x5 x6 x7 x8 x9 x10 x11 : Option D} (st : St a Gb G) (hc : c ≤ 5)
    (q : ∀ D0 (ws : List Str) G', Gb D0 = none → D0 ≠ a → G D0 = none → St a (updD Gb D0 (.lst (ws.map D.str))) G' → ws.length = c → (∀ w ∈ ws, WordOk w) → R (.ref D0) G') :
    wordsE [some (.ref a), x1, x2, x3, some (.int (c : Int)), x5, x6, x7, x8, x9, x10, x11] G R EX := by
  unfold wordsE
  simp only [dLc, iRange1]
  walk_at "rd"
  refine ⟨⟨by omega, by omega⟩, fun D0 hD0 => ?_⟩
  rw [Int.toNat_natCast]
  have nb := st.fresh hD0
  have nda := st.ne hD0
  simp only [wipeD]
  walk_at "rd"
  refine goLc_by (fun xs Gc => ∃ (ws : List Str) (n : Nat), St a (updD Gb D0 (.lst (ws.map D.str))) Gc ∧ xs = rangeD (ws.length : Nat) n ∧ ws.length + n = c ∧ (∀ w ∈ ws, WordOk w)) (fun _ _ _ => trivial) (fun Gc ⟨ws, n, st', ex, e4, hw⟩ => ?_) (fun d xs Gc N ⟨ws, n, st', ex, e4, hw⟩ hN => ?_) _ _ ⟨[], c, st.new hD0, rfl, Nat.zero_add _, (fun _ h => by cases h)⟩
  · have : n = 0 := by
      have := congrArg List.length ex
      rw [rangeD_len] at this
      simpa using this.symm
    exact q D0 ws Gc nb nda hD0 st' (by omega) hw
  · cases n with
    | zero => cases ex
    | succ n =>
      rw [rangeD_succ] at ex
      cases ex
      simp only [dYes]
      walk_at "rd"
      refine ⟨by rw [sizeLine_eq]; decide, fun p1 hp1 => ?_⟩
      have st4 := st'.new0 (c := .lst [.str "asked", .str "yes", .str "no", .str "maybe"]) hp1
      have n1 := st'.ne hp1
      refine off_ st4.d (by omega) (by omega) fun r4 G4 a4 b4 d4 s4 => ?_
      have st5 := st4.same d4 s4
      have e1 : G4 p1 = some (.lst [.str "asked", .str "yes", .str "no", .str "maybe"]) := by rw [s4 _ n1]; exact updD_same
      obtain ⟨dd, hm, hi⟩ := four a4 b4 (.str "asked") (.str "yes") (.str "no") (.str "maybe")
      obtain ⟨w, hwd, hwo⟩ : ∃ w : Str, dd = .str w ∧ WordOk w := by
        simp only [List.mem_cons, List.not_mem_nil, or_false] at hm
        rcases hm with rfl | rfl | rfl | rfl
        · exact ⟨"asked", rfl, by unfold WordOk; decide +kernel⟩
        · exact ⟨"yes", rfl, by unfold WordOk; decide +kernel⟩
        · exact ⟨"no", rfl, by unfold WordOk; decide +kernel⟩
        · exact ⟨"maybe", rfl, by unfold WordOk; decide +kernel⟩
      subst hwd
      refine ix_at e1 hi ?_
      refine ⟨_, st5.at updD_same, by rw [List.length_map, sizeLine_eq]; omega, ?_⟩
      have z := st5.put (p := D0) (c := .lst ((ws ++ [w]).map D.str)) updD_same
      rw [updD_updD] at z
      refine hN _ ⟨ws ++ [w], n, by rw [List.map_append] at z ⊢; exact z, by rw [List.length_append, List.length_singleton, show ((ws.length + 1 : Nat) : Int) = (ws.length : Int) + 1 by omega], by rw [List.length_append, List.length_singleton]; omega, fun v hv => ?_⟩
      rcases List.mem_append.mp hv with hv | hv
      · exact hw v hv
      · rw [List.mem_singleton] at hv
        rw [hv]
        exact hwo
def GuN (Gb G : DH) (d : D) (g : Gu) : Prop := ∃ w, d = .tup [.int g.hand, oD g.by_, .ref w] ∧ G w = some (.lst (g.words.map .str)) ∧ Gb w = none
def gueB : DSt := (sSeq (sAsg wordsE (gN 11))
  (sSeq (sIf (dTest (dOp dEq (dCall sd__law_off (dCons (dVar 0) (dCons (dC (.int 5)) dNil))) (dC (.int 0)))) (sAsg (dOp dMul (dLst (dCons (dC (.str "passed")) dNil)) (dVar 4)) (gN 11)) sNext)
  (sDrop (dBM "list" mAppend (dVar 8) (dCons (dTup (dCons (dVar 9) (dCons (dOp dIx (dLst (dCons (dC .non) (dCons (dVar 3) dNil))) (dCB dIntC (dCons (dOp dEq (dCall sd__law_off (dCons (dVar 0) (dCons (dC (.int 9)) dNil))) (dC (.int 0))) dNil))) (dCons (dVar 11) dNil)))) dNil)))))
theorem flat_rep (c : Nat) : (List.replicate c [D.str "passed"]).flatten = (List.replicate c ("passed" : Str)).map D.str := by
  induction c with
  | zero => rfl
  | succ c ih => rw [List.replicate_succ, List.flatten_cons, ih]; rfl
/-- one guest -/
theorem gue_one {a qg : Addr} {Gg G : DH} {Dn : DEnds} {h z : Int} {c : Nat} {lg : List D} {x1 x2 x5 x6 x7 x10 x11 : Option D} (st : St a (updD Gg qg (.lst lg)) G) (nq : Gg qg = none) (hc : c ≤ 5) (hlg : lg.length < 1000)
    (hN : ∀ o6 o11 (Gg' : DH) (d : D) (g : Gu) G', Sub Gg Gg' → Gg' qg = none → St a (updD Gg' qg (.lst (lg ++ [d]))) G' → GuN Gg Gg' d g → g.hand = z → g.words.length = c → (∀ w ∈ g.words, WordOk w) → Dn.nx [some (.ref a), x1, x2, some (.int h), some (.int (c : Int)), x5, o6, x7, some (.ref qg), some (.int z), x10, o11] G') :
    gueB Dn [some (.ref a), x1, x2, some (.int h), some (.int (c : Int)), x5, x6, x7, some (.ref qg), some (.int z), x10, x11] G := by
  unfold gueB
  refine seq_cut (fun δ' G' => ∃ (D1 : Addr) (ws : List Str) (Gg' : DH), δ' = [some (.ref a), x1, x2, some (.int h), some (.int (c : Int)), x5, x6, x7, some (.ref qg), some (.int z), x10, some (.ref D1)] ∧ Gg' D1 = some (.lst (ws.map D.str)) ∧ Gg D1 = none ∧ Sub Gg Gg' ∧ Gg' qg = none ∧ St a (updD Gg' qg (.lst lg)) G' ∧ ws.length = c ∧ ∀ w ∈ ws, WordOk w) (fun N hM => ?_) ?_
  · unfold sAsg
    refine words_ok st hc fun D1 ws G1 n1 n2 n3 st1 hl hw => ?_
    walk_at "rd"
    obtain ⟨n1', nD⟩ := none_up n1
    refine hM _ _ ⟨D1, ws, updD Gg D1 (.lst (ws.map D.str)), rfl, updD_same, n1', Sub.new n1', by rw [updD_ne (Ne.symm nD)]; exact nq, ?_, hl, hw⟩
    rw [updD_comm nD]
    exact st1
  · rintro _ G1 ⟨D1, ws, Gg1, rfl, hD1, hn1, sg1, nq1, st1, hl, hw⟩
    refine seq_cut (fun δ' G' => ∃ (D1 : Addr) (ws : List Str) (Gg' : DH), δ' = [some (.ref a), x1, x2, some (.int h), some (.int (c : Int)), x5, x6, x7, some (.ref qg), some (.int z), x10, some (.ref D1)] ∧ Gg' D1 = some (.lst (ws.map D.str)) ∧ Gg D1 = none ∧ Sub Gg Gg' ∧ Gg' qg = none ∧ St a (updD Gg' qg (.lst lg)) G' ∧ ws.length = c ∧ ∀ w ∈ ws, WordOk w) (fun N hM => ?_) ?_
    · walk_at "rd"
      refine off_ st1.d (by omega) (by omega) fun r G2 a2 b2 d2 s2 => ?_
      have st2 := st1.same d2 s2
      walk_at "rd"
      by_cases hr : r = 0
      · rw [if_pos hr]
        refine ⟨by rw [sizeLine_eq]; decide, fun p1 hp1 => ?_⟩
        have st3 := st2.new0 (c := .lst [.str "passed"]) hp1
        simp only [dMul]
        refine ⟨_, updD_same, by omega, by omega, by rw [Int.toNat_natCast, sizeLine_eq]; simp; omega, fun p2 hp2 => ?_⟩
        rw [Int.toNat_natCast, flat_rep]
        have st4 := st3.new (c := .lst ((List.replicate c ("passed" : Str)).map D.str)) hp2
        have f2 := st3.fresh hp2
        obtain ⟨f3, f4⟩ := none_up f2
        refine hM _ _ ⟨p2, List.replicate c "passed", updD Gg1 p2 (.lst ((List.replicate c ("passed" : Str)).map D.str)), rfl, updD_same, sg1.fresh f3, sg1.trans (Sub.new f3), by rw [updD_ne (Ne.symm f4)]; exact nq1, ?_, List.length_replicate, fun w hw => ?_⟩
        · rw [updD_comm f4]
          exact st4
        · rw [(List.mem_replicate.mp hw).2]
          unfold WordOk
          decide +kernel
      · rw [if_neg hr]
        exact hM _ _ ⟨D1, ws, Gg1, rfl, hD1, hn1, sg1, nq1, st2, hl, hw⟩
    · rintro _ G2 ⟨D2, ws2, Gg2, rfl, hD2, hn2, sg2, nq2, st2, hl2, hw2⟩
      walk_at "rd"
      simp only [dBM]
      walk_at "rd"
      have hqq : G2 qg = some (.lst lg) := st2.at updD_same
      refine ⟨by unfold tyR; simp only [hqq], by rw [sizeLine_eq]; decide, fun p1 hp1 => ?_⟩
      have st3 := st2.new0 (c := .lst [.non, .int h]) hp1
      have n1 := st2.ne hp1
      refine off_ st3.d (by omega) (by omega) fun r G3 a3 b3 d3 s3 => ?_
      have st4 := st3.same d3 s3
      rw [dEq_int]
      simp only [dIntC]
      have e1 : G3 p1 = some (.lst [.non, .int h]) := by rw [s3 _ n1]; exact updD_same
      obtain ⟨b, hb⟩ : ∃ b, L2.atI [D.non, .int h] (if decide (r = 0) = true then 1 else 0) = some (oD b) := by
        by_cases hr : r = 0
        · exact ⟨some h, by rw [if_pos (decide_eq_true hr)]; exact atI_1⟩
        · exact ⟨none, by rw [if_neg (by simpa using hr)]; exact atI_0⟩
      refine ix_at e1 hb ?_
      refine ⟨by rw [sizeLine_eq]; decide, ?_⟩
      simp only [mAppend]
      refine ⟨_, st4.at updD_same, by rw [sizeLine_eq]; omega, ?_⟩
      have zz := st4.put (p := qg) (c := .lst (lg ++ [.tup [.int z, oD b, .ref D2]])) updD_same
      rw [updD_updD] at zz
      exact hN _ _ Gg2 (.tup [.int z, oD b, .ref D2]) (Gu.mk z b ws2) _ sg2 nq2 zz ⟨D2, rfl, hD2, hn2⟩ rfl hl2 hw2
end K15
/-! ### k15: the drawn book, by the reading -/
namespace K15
open PySem PySem.Spec PyProof.Rows L2 Cc
open PySem.W (dataLe EachIs AllAlike Sortable)
local macro_rules | `(tactic| walk_at "rd") => `(tactic| try simp only [sSeq, sIf, sAsg, sRet, sRetN, sDrop, sNext, gN, gT, gsCons, gsNil, gsNames, D.tl, dTest, dAnd, dOr, dNot, dAndV, dOrV, dNotV, dIf, dOp, dUn, dVar, dC, dCons, dNil, dCB, dCall, dTup, dLst, blD_bl, dEq_int, dNe_int, dLt, dLe, dGt, dGe, dMod, dFdiv, dIsN, dNotN, D.isN, dAbs, List.getElem?_cons_zero, List.getElem?_cons_succ, List.set_cons_zero, List.set_cons_succ, List.length_cons, List.length_nil, decide_eq_true_eq, if_true, if_false, Bool.false_eq_true, ite_true, ite_false, true_and, and_true])
def gueS : DSt := sFor (iSq handsE) (gN 9) gueB
theorem handle_one {gus : List Gu} (h : (gus.map Gu.hand).Pairwise (· < ·)) (me : Int) : (gus.filter fun g => decide (g.hand = me)).length ≤ 1 := by
  induction gus with
  | nil => exact Nat.zero_le _
  | cons g gs ih =>
    rw [List.map_cons, List.pairwise_cons] at h
    rw [List.filter_cons]
    by_cases hg : g.hand = me
    · rw [decide_eq_true hg, if_pos rfl]
      have : gs.filter (fun g => decide (g.hand = me)) = [] := by
        rw [List.filter_eq_nil_iff]
        intro y hy
        have := h.1 y.hand (List.mem_map.mpr ⟨y, hy, rfl⟩)
        simp
        omega
      rw [this]
      exact Nat.le_refl _
    · rw [decide_eq_false hg, if_neg Bool.false_ne_true]
      exact ih h.2
theorem gue_ok {a qg : Addr} {Gg G : DH} {Dn : DEnds} {h : Int} {c : Nat} {x1 x2 x5 x6 x7 x9 x10 x11 : Option D} (st : St a (updD Gg qg (.lst [])) G) (nq : Gg qg = none) (hc : c ≤ 5)
    (hN : ∀ o6 o9 o10 o11 (Gg' : DH) (lg : List D) (gus : List Gu) G', Sub Gg Gg' → Gg' qg = none → St a (updD Gg' qg (.lst lg)) G' → EachIs (GuN Gg Gg') lg gus → (gus.map Gu.hand).Pairwise (· < ·) → gus.length ≤ 4 → (∀ g ∈ gus, g.words.length = c ∧ ∀ w ∈ g.words, WordOk w) →
      Dn.nx [some (.ref a), x1, x2, some (.int h), some (.int (c : Int)), x5, o6, x7, some (.ref qg), o9, o10, o11] G') :
    gueS Dn [some (.ref a), x1, x2, some (.int h), some (.int (c : Int)), x5, x6, x7, some (.ref qg), x9, x10, x11] G := by
  unfold gueS
  simp only [sFor, iSq]
  refine hands_ok st fun D0 hs G1 n1 n2 n3 st1 hp hl => ?_
  obtain ⟨n1', nD⟩ := none_up n1
  refine ⟨_, st1.at updD_same, ?_⟩
  have hst : St a (updD (updD Gg D0 (.lst (hs.map D.int))) qg (.lst [])) G1 := by rw [updD_comm nD]; exact st1
  have nq1 : updD Gg D0 (.lst (hs.map D.int)) qg = none := by rw [updD_ne (Ne.symm nD)]; exact nq
  refine goFor_by (fun xs δ Gc => (∃ o6 o9 o10 o11, δ = [some (.ref a), x1, x2, some (.int h), some (.int (c : Int)), x5, o6, x7, some (.ref qg), o9, o10, o11]) ∧ ∃ (Gg' : DH) (lg : List D) (gus : List Gu) (rest : List Int), xs = rest.map D.int ∧ hs = gus.map Gu.hand ++ rest ∧ Sub (updD Gg D0 (.lst (hs.map D.int))) Gg' ∧ Gg' qg = none ∧ St a (updD Gg' qg (.lst lg)) Gc ∧ EachIs (GuN Gg Gg') lg gus ∧ (∀ g ∈ gus, g.words.length = c ∧ ∀ w ∈ g.words, WordOk w))
    (fun xs δ Gc ⟨_, Gg', lg, gus, rest, _, _, sg, nq', st', _⟩ => st'.at (by rw [updD_ne nD]; exact sg _ _ updD_same)) (fun δ Gc ⟨⟨o6, o9, o10, o11, e⟩, Gg', lg, gus, rest, ex, eh, sg, nq', st', hg, hw⟩ => ?_) (fun d xs δ Gc N ⟨⟨o6, o9, o10, o11, e⟩, Gg', lg, gus, rest, ex, eh, sg, nq', st', hg, hw⟩ hM => ?_) _ _ _
    ⟨⟨_, _, _, _, rfl⟩, _, [], [], hs, rfl, rfl, Sub.refl _, nq1, hst, .nil, (fun _ h => by cases h)⟩
  · subst e
    have : rest = [] := by
      cases rest with
      | nil => rfl
      | cons => cases ex
    subst this
    rw [List.append_nil] at eh
    refine hN _ _ _ _ Gg' lg gus Gc ((Sub.new n1').trans sg) nq' st' hg (by rw [← eh]; exact hp) ?_ hw
    have := congrArg List.length eh
    rw [List.length_map] at this
    omega
  · subst e
    cases rest with
    | nil => cases ex
    | cons z rest =>
      cases ex
      walk_at "rd"
      have l1 := hg.length
      have l2 := congrArg List.length eh
      rw [List.length_append, List.length_map, List.length_cons] at l2
      refine gue_one st' nq' hc (by omega) fun o6' o11' Gg2 d g G2 s2 nq2 st2 hd hz hl2 hw2 => ?_
      refine hM _ _ ⟨⟨_, _, _, _, rfl⟩, Gg2, lg ++ [d], gus ++ [g], rest, rfl, by rw [eh, List.map_append, List.map_singleton, hz]; simp, sg.trans s2, nq2, st2, each_app (hg.mono fun _ _ ⟨w, e, z, n⟩ => ⟨w, e, s2 _ _ z, n⟩) (.cons (by obtain ⟨w, e, z, n⟩ := hd; exact ⟨w, e, z, ((Sub.new n1').trans sg).fresh n⟩) .nil), fun y hy => ?_⟩
      rcases List.mem_append.mp hy with hy | hy
      · exact hw y hy
      · rw [List.mem_singleton] at hy
        subst hy
        exact ⟨hl2, hw2⟩
theorem each_perm {α β : Type} {P : α → β → Prop} : ∀ {as as' : List α} {bs : List β}, as.Perm as' → EachIs P as bs → ∃ bs', bs.Perm bs' ∧ EachIs P as' bs' := by
  intro as as' bs hp
  induction hp generalizing bs with
  | nil => intro h; exact ⟨bs, .refl _, h⟩
  | cons x _ ih =>
    intro h
    obtain ⟨b, bs', rfl, h1, h2⟩ := each_cons h
    obtain ⟨cs, p, e⟩ := ih h2
    exact ⟨b :: cs, .cons _ p, .cons h1 e⟩
  | swap x y l =>
    intro h
    obtain ⟨b, bs', rfl, h1, h2⟩ := each_cons h
    obtain ⟨c, cs, rfl, h3, h4⟩ := each_cons h2
    exact ⟨c :: b :: cs, .swap _ _ _, .cons h3 (.cons h1 h4)⟩
  | trans _ _ ih1 ih2 =>
    intro h
    obtain ⟨b1, p1, e1⟩ := ih1 h
    obtain ⟨b2, p2, e2⟩ := ih2 e1
    exact ⟨b2, p1.trans p2, e2⟩
theorem sortG_perm {κ : Type} {enc : κ → PyData} {l : List D} {ks : List κ} (h : l.length = ks.length) : (sortG enc l ks).Perm l := by
  unfold sortG
  have := (List.mergeSort_perm (l.zip ks) (dataLe false fun b : D × κ => enc b.2)).map Prod.fst
  rw [List.map_fst_zip (by omega)] at this
  exact this
theorem rows_keys {G : DH} : ∀ {rows : List D} {B : List Me}, EachIs (MeAt G) rows B → rows.map kII = (B.map fun m => (m.h, m.n)).map some
  | _, _, .nil => rfl
  | _, _, .cons ⟨p, q, lg, e, _⟩ t => by
    subst e
    rw [List.map_cons, List.map_cons, List.map_cons, rows_keys t]
    rfl
theorem Ok.perm {B B' : List Me} (h : Ok B) (p : B.Perm B') : Ok B' := ⟨fun m hm => h.me m (p.mem_iff.mpr hm), by rw [← p.length_eq]; exact h.few⟩
theorem three {r : Int} (h0 : 0 ≤ r) (h1 : r < 3) : ∃ d : Int, L2.atI [D.int 9, .int 9, .int 21] r = some (.int d) ∧ 0 < d ∧ d ≤ 21 := by
  obtain ⟨d, hm, hi⟩ := atI_mem (l := [D.int 9, .int 9, .int 21]) h0 (by simpa using h1)
  simp only [List.mem_cons, List.not_mem_nil, or_false] at hm
  rcases hm with rfl | rfl | rfl
  · exact ⟨9, hi, by omega, by omega⟩
  · exact ⟨9, hi, by omega, by omega⟩
  · exact ⟨21, hi, by omega, by omega⟩
theorem two_of {r : Int} (h0 : 0 ≤ r) (h1 : r < 2) : ∃ d : Int, L2.atI [D.int 8, .int 50] r = some (.int d) ∧ 0 < d ∧ d ≤ 50 := by
  obtain ⟨d, hm, hi⟩ := atI_mem (l := [D.int 8, .int 50]) h0 (by simpa using h1)
  simp only [List.mem_cons, List.not_mem_nil, or_false] at hm
  rcases hm with rfl | rfl
  · exact ⟨8, hi, by omega, by omega⟩
  · exact ⟨50, hi, by omega, by omega⟩
theorem pure_law_book (ds : List D) (G : DH) (R : DK) (EX : DX) (h : sd__law_book ds G R EX) : b__law_book (endsD (frg R) EX) (startD N__law_book ds) G := by
  obtain ⟨a, l, rfl, ha, hd, q⟩ := h
  show b__law_book (endsD (frg R) EX) [some (.ref a), none, none, none, none, none, none, none, none, none, none, none] G
  have st0 : St a (fun _ => none) G := ⟨⟨l, ha, hd⟩, (fun _ _ h => by cases h), rfl⟩
  unfold b__law_book
  refine seq_cut (fun δ' G' => ∃ f, δ' = [some (.ref a), some (.ref f), none, none, none, none, none, none, none, none, none, none] ∧ f ≠ a ∧ St a (updD (fun _ => none) f (.lst [])) G') (fun N hN => ?_) ?_
  · walk_at "rd"
    exact ⟨Nat.zero_le _, fun f hf => hN _ _ ⟨f, rfl, st0.ne hf, st0.new hf⟩⟩
  rintro _ G0 ⟨f, rfl, nfa, st0⟩
  refine seq_cut (fun δ' G' => ∃ (rows : List D) (Gb : DH) (B : List Me) (o2 o3 o4 o5 o6 o7 o8 o9 o10 o11 : Option D), δ' = [some (.ref a), some (.ref f), o2, o3, o4, o5, o6, o7, o8, o9, o10, o11] ∧ Gb f = none ∧ St a (updD Gb f (.lst rows)) G' ∧ EachIs (MeAt Gb) rows B ∧ Ok B) (fun N hN => ?_) ?_
  · simp only [sFor, iRange1]
    walk_at "rd"
    refine ⟨by rw [sizeLine_eq]; decide, fun p1 hp1 => ?_⟩
    have st1 := st0.new0 (c := .lst [.int 9, .int 9, .int 21]) hp1
    have n1 := st0.ne hp1
    refine off_ st1.d (by omega) (by omega) fun r1 G1 a1 b1 d1 s1 => ?_
    have st2 := st1.same d1 s1
    have e1 : G1 p1 = some (.lst [.int 9, .int 9, .int 21]) := by rw [s1 _ n1]; exact updD_same
    obtain ⟨dd, hi, h1, h2⟩ := three a1 b1
    refine ix_at e1 hi ?_
    refine off_ st2.d h1 (by omega) fun r2 G2 a2 b2 d2 s2 => ?_
    have st3 := st2.same d2 s2
    refine ⟨⟨by omega, by omega⟩, ?_⟩
    refine goFor_by (fun xs δ Gc => (∃ (o2 o3 o4 o5 o6 o7 o8 o9 o10 o11 : Option D), δ = [some (.ref a), some (.ref f), o2, o3, o4, o5, o6, o7, o8, o9, o10, o11]) ∧ ∃ (rows : List D) (Gb : DH) (B : List Me) (i n : Nat), xs = rangeD (i : Int) n ∧ i + n ≤ 21 ∧ B.length ≤ i ∧ Gb f = none ∧ St a (updD Gb f (.lst rows)) Gc ∧ EachIs (MeAt Gb) rows B ∧ ∀ m ∈ B, m.Ok)
      (fun _ _ _ _ => trivial) (fun δ Gc ⟨⟨o2, o3, o4, o5, o6, o7, o8, o9, o10, o11, e⟩, rows, Gb, B, i, n, ex, hin, hB, nf, st, hr, ok⟩ => ?_) (fun d xs δ Gc M ⟨⟨o2, o3, o4, o5, o6, o7, o8, o9, o10, o11, e⟩, rows, Gb, B, i, n, ex, hin, hB, nf, st, hr, ok⟩ hM => ?_) _ _ _
      ⟨⟨none, none, none, none, none, none, none, none, none, none, rfl⟩, [], fun _ => none, [], 0, r2.toNat, rfl, by omega, Nat.le_refl _, rfl, st3, .nil, (fun _ h => by cases h)⟩
    · exact hN _ _ ⟨rows, Gb, B, o2, o3, o4, o5, o6, o7, o8, o9, o10, o11, e, nf, st, hr, ok, by omega⟩
    · subst e
      cases n with
      | zero => cases ex
      | succ n =>
        rw [rangeD_succ] at ex
        cases ex
        -- host
        refine seq_cut (fun δ' G' => ∃ h : Int, δ' = [some (.ref a), some (.ref f), some (.int (i : Int)), some (.int h), o4, o5, o6, o7, o8, o9, o10, o11] ∧ St a (updD Gb f (.lst rows)) G') (fun K hK => ?_) ?_
        · walk_at "rd"
          exact off_ st.d (by omega) (by omega) fun r G' a' b' d' s' => hK _ _ ⟨r, rfl, st.same d' s'⟩
        rintro _ G3 ⟨h, rfl, st3⟩
        refine seq_cut (fun δ' G' => ∃ c : Nat, δ' = [some (.ref a), some (.ref f), some (.int (i : Int)), some (.int h), some (.int (c : Int)), o5, o6, o7, o8, o9, o10, o11] ∧ c ≤ 5 ∧ St a (updD Gb f (.lst rows)) G') (fun K hK => ?_) ?_
        · walk_at "rd"
          refine off_ st3.d (by omega) (by omega) fun r G' a' b' d' s' => ?_
          simp only [dAdd]
          refine hK _ _ ⟨(1 + r).toNat, ?_, by omega, st3.same d' s'⟩
          rw [Int.toNat_of_nonneg (by omega)]
        rintro _ G4 ⟨c, rfl, hc, st4⟩
        refine seq_cut (fun δ' G' => ∃ p, δ' = [some (.ref a), some (.ref f), some (.int (i : Int)), some (.int h), some (.int (c : Int)), some (.ref p), o6, o7, o8, o9, o10, o11] ∧ Gb p = none ∧ p ≠ f ∧ St a (updD (updD Gb f (.lst rows)) p (.lst [])) G') (fun K hK => ?_) ?_
        · walk_at "rd"
          refine ⟨Nat.zero_le _, fun p hp => ?_⟩
          obtain ⟨x1, x2⟩ := none_up (st4.fresh hp)
          exact hK _ _ ⟨p, rfl, x1, x2, st4.new hp⟩
        rintro _ G5 ⟨p, rfl, np, npf, st5⟩
        refine seq_cut (fun δ' G' => ∃ (mos : List Mo) (o6 o7 : Option D), δ' = [some (.ref a), some (.ref f), some (.int (i : Int)), some (.int h), some (.int (c : Int)), some (.ref p), o6, o7, o8, o9, o10, o11] ∧ mos.length = c ∧ (∀ mo ∈ mos, mo.k < c) ∧ St a (updD (updD Gb p (.lst (mos.map Mo.d))) f (.lst rows)) G') (fun K hK => ?_) ?_
        · refine mom_ok st5 updD_same hc fun o6' o7' mos G' stm hl hk => hK _ _ ⟨mos, o6', o7', rfl, hl, hk, ?_⟩
          rw [updD_updD, updD_comm (Ne.symm npf)] at stm
          exact stm
        rintro _ G6 ⟨mos, o6', o7', rfl, hml, hmk, st6⟩
        refine seq_cut (fun δ' G' => ∃ qg, δ' = [some (.ref a), some (.ref f), some (.int (i : Int)), some (.int h), some (.int (c : Int)), some (.ref p), o6', o7', some (.ref qg), o9, o10, o11] ∧ Gb qg = none ∧ qg ≠ p ∧ qg ≠ f ∧ St a (updD (updD (updD Gb p (.lst (mos.map Mo.d))) f (.lst rows)) qg (.lst [])) G') (fun K hK => ?_) ?_
        · walk_at "rd"
          refine ⟨Nat.zero_le _, fun qg hqg => ?_⟩
          obtain ⟨x1, x2⟩ := none_up (st6.fresh hqg)
          obtain ⟨x3, x4⟩ := none_up x1
          exact hK _ _ ⟨qg, rfl, x3, x4, x2, st6.new hqg⟩
        rintro _ G7 ⟨qg, rfl, nqg, nqp, nqf, st7⟩
        have nqb : updD (updD Gb p (.lst (mos.map Mo.d))) f (.lst rows) qg = none := by rw [updD_ne nqf, updD_ne nqp]; exact nqg
        refine seq_cut (fun δ' G' => ∃ (Gg' : DH) (lg : List D) (gus : List Gu) (o6 o7 o9 o10 o11 : Option D), δ' = [some (.ref a), some (.ref f), some (.int (i : Int)), some (.int h), some (.int (c : Int)), some (.ref p), o6, o7, some (.ref qg), o9, o10, o11] ∧ Sub (updD (updD Gb p (.lst (mos.map Mo.d))) f (.lst rows)) Gg' ∧ Gg' qg = none ∧ St a (updD Gg' qg (.lst lg)) G' ∧ EachIs (GuN (updD (updD Gb p (.lst (mos.map Mo.d))) f (.lst rows)) Gg') lg gus ∧ (gus.map Gu.hand).Pairwise (· < ·) ∧ gus.length ≤ 4 ∧ ∀ g ∈ gus, g.words.length = c ∧ ∀ w ∈ g.words, WordOk w) (fun K hK => ?_) ?_
        · exact gue_ok st7 nqb hc fun o6 o9 o10 o11 Gg' lg gus G' h1 h2 h3 h4 h5 h6 h7 => hK _ _ ⟨Gg', lg, gus, o6, o7', o9, o10, o11, rfl, h1, h2, h3, h4, h5, h6, h7⟩
        rintro _ G8 ⟨Gg, lg, gus, o6, o7, o9, o10, o11, rfl, sg, nqg2, st8, hg, hpw, hg4, hgw⟩
        walk_at "rd"
        simp only [dBM]
        walk_at "rd"
        have hf8 : G8 f = some (.lst rows) := st8.at (by rw [updD_ne (Ne.symm nqf)]; exact sg _ _ updD_same)
        refine ⟨by unfold tyR; simp only [hf8], ?_⟩
        refine off_ st8.d (by omega) (by omega) fun r1 Ga a1 b1 d1 s1 => ?_
        have sta := st8.same d1 s1
        simp only [dAdd]
        walk_at "rd"
        refine ⟨by rw [sizeLine_eq]; decide, fun p1 hp1 => ?_⟩
        have stb := sta.new0 (c := .lst [.int 8, .int 50]) hp1
        have n1 := sta.ne hp1
        refine off_ stb.d (by omega) (by omega) fun r2 Gc2 a2 b2 d2 s2 => ?_
        have stc := stb.same d2 s2
        have e1 : Gc2 p1 = some (.lst [.int 8, .int 50]) := by rw [s2 _ n1]; exact updD_same
        obtain ⟨dd, hi, h1, h2⟩ := two_of a2 b2
        refine ix_at e1 hi ?_
        refine off_ stc.d h1 (by omega) fun r3 Gd a3 b3 d3 s3 => ?_
        have std := stc.same d3 s3
        simp only [dAdd]
        refine ⟨by rw [sizeLine_eq]; decide, ?_⟩
        simp only [mAppend]
        have hfg : updD Gg qg (.lst lg) f = some (.lst rows) := by rw [updD_ne (Ne.symm nqf)]; exact sg _ _ updD_same
        have hll := hr.length
        refine ⟨_, std.at hfg, by rw [sizeLine_eq]; omega, ?_⟩
        -- the new row
        have hout : St a (updD (updD (fun b => if b = f then none else Gg b) qg (.lst lg)) f (.lst (rows ++ [.tup [.int h, .int (i : Int), .int (1 + r1), .str "", .int (1 + r3), .ref p, .ref qg]]))) (updD Gd f (.lst (rows ++ [.tup [.int h, .int (i : Int), .int (1 + r1), .str "", .int (1 + r3), .ref p, .ref qg]]))) := by
          have z := std.put (p := f) (c := .lst (rows ++ [.tup [.int h, .int (i : Int), .int (1 + r1), .str "", .int (1 + r3), .ref p, .ref qg]])) hfg
          refine z.le (Sub.updD ?_)
          refine Sub.updD fun b u e => ?_
          by_cases hb : b = f
          · rw [if_pos hb] at e
            cases e
          · rw [if_neg hb] at e
            exact e
        have sgb : Sub Gb (fun b => if b = f then none else Gg b) := fun b u e => by
          have hb : b ≠ f := fun z => by subst z; rw [nf] at e; cases e
          have hb2 : b ≠ p := fun z => by subst z; rw [np] at e; cases e
          show (if b = f then none else Gg b) = some u
          rw [if_neg hb]
          exact sg _ _ (by rw [updD_ne hb, updD_ne hb2]; exact e)
        have nqx : (fun b => if b = f then none else Gg b) qg = none := by
          show (if qg = f then none else Gg qg) = none
          rw [if_neg nqf]
          exact nqg2
        have sall : Sub Gb (updD (fun b => if b = f then none else Gg b) qg (.lst lg)) := sgb.trans (Sub.new nqx)
        refine hM _ _ ⟨⟨_, _, _, _, _, _, _, _, _, _, rfl⟩, rows ++ [.tup [.int h, .int (i : Int), .int (1 + r1), .str "", .int (1 + r3), .ref p, .ref qg]], updD (fun b => if b = f then none else Gg b) qg (.lst lg), B ++ [⟨h, i, 1 + r1, 1 + r3, mos, gus⟩], i + 1, n, by rw [show ((i + 1 : Nat) : Int) = (i : Int) + 1 by omega], by omega, by rw [List.length_append, List.length_singleton]; omega, ?_, hout, each_app (hr.mono fun _ _ z => z.sub sall) (.cons ⟨p, qg, lg, rfl, ?_, updD_same, ?_⟩ .nil), fun m hm => ?_⟩
        · rw [updD_ne (Ne.symm nqf)]
          exact if_pos rfl
        · rw [updD_ne (Ne.symm nqp)]
          show (if p = f then none else Gg p) = _
          rw [if_neg npf]
          exact sg _ _ (by rw [updD_ne npf]; exact updD_same)
        · refine hg.mono fun d g ⟨w, e, hw, hn⟩ => ⟨w, e, ?_⟩
          have hwf : w ≠ f := (none_up hn).2
          rw [updD_ne (fun z => by subst z; rw [nqg2] at hw; cases hw)]
          show (if w = f then none else Gg w) = _
          rw [if_neg hwf]
          exact hw
        · rcases List.mem_append.mp hm with hm | hm
          · exact ok m hm
          · rw [List.mem_singleton] at hm
            subst hm
            refine ⟨by show 0 < 1 + r3; omega, fun mo hmo g hgm => ?_, handle_one hpw, fun g hgm => ⟨(hgw g hgm).2, by rw [(hgw g hgm).1]; omega⟩, by show mos.length ≤ 10; omega, by show gus.length ≤ 100; omega⟩
            rw [(hgw g hgm).1]
            exact hmk mo hmo
  · rintro _ G' ⟨rows, Gb, B, o2, o3, o4, o5, o6, o7, o8, o9, o10, o11, rfl, nf, st, hr, ok⟩
    simp only [sRet, dSortG]
    walk_at "rd"
    have hll := hr.length
    have := ok.few
    refine ⟨rows, B.map fun m => (m.h, m.n), st.at updD_same, rows_keys hr, by rw [sizeLine_eq]; omega, fun p hp => ?_⟩
    obtain ⟨B', pB, hB'⟩ := each_perm (sortG_perm (enc := encII) (l := rows) (ks := B.map fun m => (m.h, m.n)) (by rw [List.length_map]; exact hll)).symm hr
    have stp := st.new (c := .lst (sortG encII rows (B.map fun m => (m.h, m.n)))) hp
    obtain ⟨l', e', dl⟩ := stp.d
    have sub1 : Sub Gb (updD (updD Gb f (.lst rows)) p (.lst (sortG encII rows (B.map fun m => (m.h, m.n))))) := (Sub.new nf).trans (Sub.new (st.fresh hp))
    exact frg_of (q (.ref p) B' l' _ _ e' dl stp.s stp.na ⟨p, _, rfl, updD_same, hB'.mono fun _ _ z => z.sub sub1⟩ (ok.perm pB))
end K15
/-! ### k15: the law, by its reading -/
namespace K15
open PySem PySem.Spec PyProof.Rows L2 Cc
open PySem.W (dataLe EachIs AllAlike Sortable)
local macro_rules | `(tactic| walk_at "rd") => `(tactic| try simp only [sSeq, sIf, sAsg, sRet, sRetN, sDrop, sNext, gN, gT, gsCons, gsNil, gsNames, D.tl, dTest, dAnd, dOr, dNot, dAndV, dOrV, dNotV, dIf, dOp, dUn, dVar, dC, dCons, dNil, dCB, dCall, dTup, dLst, blD_bl, dEq_int, dNe_int, dLt, dLe, dGt, dGe, dMod, dFdiv, dIsN, dNotN, D.isN, dAbs, List.getElem?_cons_zero, List.getElem?_cons_succ, List.set_cons_zero, List.set_cons_succ, List.length_cons, List.length_nil, decide_eq_true_eq, if_true, if_false, Bool.false_eq_true, ite_true, ite_false, true_and, and_true])
theorem d2_0 {t : T5} {G : DH} {R : DK} (q : R (.int t.b) G) : dIx t.d2 (.int 0) G R := ix_seqd (l := [D.int t.b, D.int t.e, t.key.d]) rfl atI_0 q
theorem d2_1 {t : T5} {G : DH} {R : DK} (q : R (.int t.e) G) : dIx t.d2 (.int 1) G R := ix_seqd (l := [D.int t.b, D.int t.e, t.key.d]) rfl atI_1 q
theorem d2_2 {t : T5} {G : DH} {R : DK} (q : R t.key.d G) : dIx t.d2 (.int 2) G R := ix_seqd (l := [D.int t.b, D.int t.e, t.key.d]) rfl (atI_nat (i := 2) rfl) q
theorem len_at {G : DH} {a : Addr} {l : List D} {R : DK} (h : G a = some (.lst l)) (q : R (.int (l.length : Nat)) G) : dLen [.ref a] G R := by
  have e : lenOf G (.ref a) = some l.length := len_seq (by unfold seqOf; dsimp only; rw [h])
  have z : (match lenOf G (.ref a) with
    | some n => R (.int n) G
    | none => False) := by
    rw [e]
    exact q
  exact z
theorem pairs_few2 {l : List T5} (h : l.length ≤ 300) : (pairs l).length ≤ 90000 := by
  have : ∀ l : List T5, (pairs l).length ≤ l.length * l.length := fun l => by
    induction l with
    | nil => exact Nat.le_refl _
    | cons x xs ih =>
      have h1 := List.length_filterMap_le (meet x) xs
      unfold pairs
      rw [List.length_append, List.length_cons, Nat.succ_mul, Nat.mul_succ]
      omega
  exact Nat.le_trans (this l) (Nat.mul_le_mul h h)
theorem meet_ne {x y : T5} {c : Cl} (h : meet x y = some c) : c ≠ [] := by
  unfold meet at h
  split at h
  · cases h
    intro z
    have := two_len x.key y.key
    rw [z] at this
    cases this
  · cases h
theorem meet_len {x y : T5} {c : Cl} (h : meet x y = some c) : c.length = 2 := by
  unfold meet at h
  split at h
  · cases h
    exact two_len _ _
  · cases h
theorem pairs_len2 : ∀ {l : List T5}, ∀ c ∈ pairs l, c.length = 2
  | [], _, h => by cases h
  | x :: xs, c, h => by
    unfold pairs at h
    rcases List.mem_append.mp h with h | h
    · obtain ⟨y, _, e⟩ := List.mem_filterMap.mp h
      exact meet_len e
    · exact pairs_len2 c h
theorem St.putN {a p : Addr} {Gb G : DH} {c : C} (h : St a Gb G) (n : Gb p = none) (ne : p ≠ a) : St a Gb (updD G p c) := ⟨h.d.upd ne, sub_put h.s n, h.na⟩
def dueS : DSt := (sFor (iRange1 (dCB dLen (dCons (dVar 6) dNil))) (gN 7) (sFor (iRange2 (dOp dAdd (dVar 7) (dC (.int 1))) (dCB dLen (dCons (dVar 6) dNil))) (gN 8) (sSeq (sPar2 9 10 (dCons (dOp dIx (dVar 6) (dVar 7)) (dCons (dOp dIx (dVar 6) (dVar 8)) dNil)))
  (sIf (dAnd (dTest (dOp dLt (dOp dIx (dVar 9) (dC (.int 0))) (dOp dIx (dVar 10) (dC (.int 1))))) (dTest (dOp dLt (dOp dIx (dVar 10) (dC (.int 0))) (dOp dIx (dVar 9) (dC (.int 1)))))) (sDrop (dBM "list" mAppend (dVar 5) (dCons (dCB dTupC (dCons (dCB dSorted (dCons (dLst (dCons (dOp dIx (dVar 9) (dC (.int 2))) (dCons (dOp dIx (dVar 10) (dC (.int 2))) dNil))) dNil)) dNil)) dNil))) sNext))))
theorem due_ok {dd du tm : Addr} {Gb G : DH} {Dn : DEnds} {T : List T5} {x0 x2 x3 x4 o7 o8 o9 o10 o11 o12 o13 : Option D} (hT : T.length ≤ 300) (st : St dd (updD Gb du (.lst [])) G) (nu : Gb du = none) (ht : Gb tm = some (.lst (T.map T5.d2)))
    (hN : ∀ o7 o8 o9 o10 G', St dd (updD Gb du (.lst ((pairs T).map clD))) G' → Dn.nx [x0, some (.ref dd), x2, x3, x4, some (.ref du), some (.ref tm), o7, o8, o9, o10, o11, o12, o13] G') :
    dueS Dn [x0, some (.ref dd), x2, x3, x4, some (.ref du), some (.ref tm), o7, o8, o9, o10, o11, o12, o13] G := by
  have ntu : tm ≠ du := fun z => by subst z; rw [nu] at ht; cases ht
  have tat : ∀ {acc : List Cl} {Gc : DH}, St dd (updD Gb du (.lst (acc.map clD))) Gc → Gc tm = some (.lst (T.map T5.d2)) := fun s => s.at (by rw [updD_ne ntu]; exact ht)
  have lenP := pairs_few2 hT
  have hl := sizeLine_eq
  have eL : (T.map T5.d2).length = T.length := List.length_map _
  unfold dueS
  simp only [sFor, iRange1]
  walk_at "rd"
  refine len_at (tat (acc := []) st) ⟨by rw [eL]; omega, ?_⟩
  rw [eL, Int.toNat_natCast]
  refine goFor_by (fun xs δ Gc => (∃ o7 o8 o9 o10 : Option D, δ = [x0, some (.ref dd), x2, x3, x4, some (.ref du), some (.ref tm), o7, o8, o9, o10, o11, o12, o13]) ∧ ∃ (i n : Nat) (acc : List Cl), xs = rangeD (i : Int) n ∧ i + n = T.length ∧ St dd (updD Gb du (.lst (acc.map clD))) Gc ∧ acc ++ pairs (T.drop i) = pairs T)
    (fun _ _ _ _ => trivial) (fun δ Gc ⟨⟨o7, o8, o9, o10, e⟩, i, n, acc, ex, hin, st', ea⟩ => ?_) (fun d xs δ Gc N ⟨⟨o7, o8, o9, o10, e⟩, i, n, acc, ex, hin, st', ea⟩ hM => ?_) _ _ _ ⟨⟨_, _, _, _, rfl⟩, 0, T.length, [], rfl, Nat.zero_add _, st, rfl⟩
  · have : n = 0 := by
      have := congrArg List.length ex
      rw [rangeD_len] at this
      simpa using this.symm
    rw [List.drop_of_length_le (by omega)] at ea
    rw [show acc ++ pairs [] = acc from List.append_nil _] at ea
    subst e
    rw [ea] at st'
    exact hN _ _ _ _ _ st'
  · subst e
    cases n with
    | zero => cases ex
    | succ n =>
      rw [rangeD_succ] at ex
      cases ex
      walk_at "rd"
      simp only [sFor, iRange2]
      walk_at "rd"
      simp only [dAdd]
      refine len_at (tat st') ⟨⟨by omega, by omega, by rw [eL]; omega, by rw [eL]; omega⟩, ?_⟩
      have hi : i < T.length := by omega
      have e1 : (((T.map T5.d2).length : Nat) - ((i : Int) + 1) : Int).toNat = n := by rw [eL]; omega
      rw [e1]
      have eT : T.drop i = T[i] :: T.drop (i + 1) := List.drop_eq_getElem_cons hi
      rw [eT, pairs] at ea
      obtain ⟨one, hone⟩ : ∃ one, T[i] = one := ⟨_, rfl⟩
      rw [hone] at ea
      have gi : (T.map T5.d2)[i]? = some one.d2 := by rw [List.getElem?_map, List.getElem?_eq_getElem hi, hone]; rfl
      refine goFor_by (fun xs δ Gc => (∃ o8 o9 o10 : Option D, δ = [x0, some (.ref dd), x2, x3, x4, some (.ref du), some (.ref tm), some (.int (i : Int)), o8, o9, o10, o11, o12, o13]) ∧ ∃ (j m : Nat) (acc : List Cl), xs = rangeD (j : Int) m ∧ j + m = T.length ∧ St dd (updD Gb du (.lst (acc.map clD))) Gc ∧ acc ++ ((T.drop j).filterMap (meet one) ++ pairs (T.drop (i + 1))) = pairs T)
        (fun _ _ _ _ => trivial) (fun δ Gc ⟨⟨o8, o9, o10, e⟩, j, m, acc, ex, hjm, st', ea⟩ => ?_) (fun d xs δ Gc N' ⟨⟨o8, o9, o10, e⟩, j, m, acc, ex, hjm, st', ea⟩ hM' => ?_) _ _ _ ⟨⟨_, _, _, rfl⟩, i + 1, n, acc, by rw [show ((i + 1 : Nat) : Int) = (i : Int) + 1 by omega], by omega, st', ea⟩
      · have : m = 0 := by
          have := congrArg List.length ex
          rw [rangeD_len] at this
          simpa using this.symm
        rw [List.drop_of_length_le (i := j) (by omega)] at ea
        rw [List.filterMap_nil, List.nil_append] at ea
        exact hM _ _ ⟨⟨_, _, _, _, e⟩, i + 1, n, acc, by rw [show ((i + 1 : Nat) : Int) = (i : Int) + 1 by omega], by omega, st', ea⟩
      · subst e
        cases m with
        | zero => cases ex
        | succ m =>
          rw [rangeD_succ] at ex
          cases ex
          have hj : j < T.length := by omega
          have eJ : T.drop j = T[j] :: T.drop (j + 1) := List.drop_eq_getElem_cons hj
          obtain ⟨oth, hoth⟩ : ∃ oth, T[j] = oth := ⟨_, rfl⟩
          rw [eJ, hoth, List.filterMap_cons] at ea
          have gj : (T.map T5.d2)[j]? = some oth.d2 := by rw [List.getElem?_map, List.getElem?_eq_getElem hj, hoth]; rfl
          walk_at "rd"
          simp only [sPar2]
          walk_at "rd"
          refine ix_at (tat st') (Cc.atI_nat gi) ?_
          refine ix_at (tat st') (Cc.atI_nat gj) ?_
          refine d2_0 ?_
          refine d2_1 ?_
          walk_at "rd"
          have nxt : meet one oth = none → N' [x0, some (.ref dd), x2, x3, x4, some (.ref du), some (.ref tm), some (.int (i : Int)), some (.int (j : Int)), some one.d2, some oth.d2, o11, o12, o13] Gc := fun em => by
            rw [em] at ea
            exact hM' _ _ ⟨⟨_, _, _, rfl⟩, j + 1, m, acc, by rw [show ((j + 1 : Nat) : Int) = (j : Int) + 1 by omega], by omega, st', ea⟩
          by_cases h1 : one.b < oth.e
          · rw [if_pos h1]
            refine d2_0 ?_
            refine d2_1 ?_
            walk_at "rd"
            by_cases h2 : oth.b < one.e
            · have em : meet one oth = some (two one.key oth.key) := if_pos ⟨h1, h2⟩
              rw [if_pos h2]
              rw [em] at ea
              simp only [dBM]
              walk_at "rd"
              have hdu : Gc du = some (.lst (acc.map clD)) := st'.at updD_same
              refine ⟨by unfold tyR; simp only [hdu], ?_⟩
              refine d2_2 ?_
              refine d2_2 ?_
              refine ⟨by rw [hl]; decide, fun p2 hp2 => ?_⟩
              have st2 := st'.new0 (c := .lst [one.key.d, oth.key.d]) hp2
              refine tup_sorted updD_same fun p3 hp3 => ?_
              have st3 := st2.new0 (c := .lst ((two one.key oth.key).map K3.d)) hp3
              have hla : acc.length < (pairs T).length := by
                rw [← ea]
                simp
              simp only [mAppend]
              refine ⟨_, st3.at updD_same, by rw [List.length_map]; omega, ?_⟩
              have z := st3.put (p := du) (c := .lst ((acc ++ [two one.key oth.key]).map clD)) updD_same
              rw [updD_updD] at z
              refine hM' _ _ ⟨⟨_, _, _, rfl⟩, j + 1, m, acc ++ [two one.key oth.key], by rw [show ((j + 1 : Nat) : Int) = (j : Int) + 1 by omega], by omega, by rw [List.map_append] at z ⊢; exact z, by rw [List.append_assoc]; exact ea⟩
            · rw [if_neg h2]
              exact nxt (if_neg fun z => h2 z.2)
          · rw [if_neg h1]
            walk_at "rd"
            exact nxt (if_neg fun z => h1 z.1)
theorem lean_cls {l : List Cl} (h : l.length ≤ 100000) (h2 : ∀ c ∈ l, c.length = 2) : lean (.list (l.map clP)) = true := by
  rw [lean, List.length_map, decide_eq_true h]
  refine lean_map fun c hc => ?_
  unfold clP
  rw [lean, List.length_map, h2 c hc]
  refine lean_map fun k _ => ?_
  simp [K3.p, lean, leanAll]
theorem dep_cls (l : List Cl) : (PyData.list (l.map clP)).depth ≤ 3 := by
  have : PyData.depthAll (l.map clP) ≤ 2 := dep_map fun c _ => cl_dep c
  rw [PyData.depth]
  omega
theorem BookAt.dd {G : DH} {x : D} {B : List Me} (h : BookAt G x B) : Rdd G x (bookP B) := by
  obtain ⟨a, l, rfl, e, h⟩ := h
  exact .lst e (rdd_each (fun _ _ z => z.rdd) h)
theorem pure_law (ds : List D) (G : DH) (R : DK) (EX : DX) (h : sdLaw ds G R EX) : b_law (endsD (frg R) EX) (startD N_law ds) G := by
  obtain ⟨x, ns, rfl, hx, hn, q⟩ := h
  show b_law (endsD (frg R) EX) [some x, none, none, none, none, none, none, none, none, none, none, none, none, none] G
  have hl := sizeLine_eq
  unfold b_law
  refine seq_cut (fun δ' G' => ∃ dd, δ' = [some x, some (.ref dd), none, none, none, none, none, none, none, none, none, none, none, none] ∧ Dice dd G') (fun N hN => ?_) ?_
  · walk_at "rd"
    exact ⟨x, 0, ns, rfl, hx, by omega, fun p l hp hd => hN _ _ ⟨p, rfl, l, updD_same, hd⟩⟩
  rintro _ G0 ⟨dd, rfl, hd0⟩
  refine seq_cut (fun δ' G' => True) (fun N hN => ?_) ?_
  · simp only [sFor, iRange1]
    walk_at "rd"
    refine ⟨⟨by omega, by omega⟩, ?_⟩
    refine goFor_by (fun xs δ Gc => (∃ o2 o3 o4 o5 o6 o7 o8 o9 o10 o11 o12 o13 : Option D, δ = [some x, some (.ref dd), o2, o3, o4, o5, o6, o7, o8, o9, o10, o11, o12, o13]) ∧ Dice dd Gc ∧ ∃ i n, xs = rangeD i n) (fun _ _ _ _ => trivial) (fun δ Gc _ => hN _ _ trivial) (fun d xs δ Gc M ⟨⟨o2, o3, o4, o5, o6, o7, o8, o9, o10, o11, o12, o13, e⟩, hd, i, n, ex⟩ hM => ?_) _ _ _ ⟨⟨_, _, _, _, _, _, _, _, _, _, _, _, rfl⟩, hd0, 0, 4, rfl⟩
    subst e
    cases n with
    | zero => cases ex
    | succ n =>
      rw [rangeD_succ] at ex
      cases ex
      refine seq_cut (fun δ' G' => ∃ (b : D) (B : List Me) (Gb : DH), δ' = [some x, some (.ref dd), some (.int i), some b, o4, o5, o6, o7, o8, o9, o10, o11, o12, o13] ∧ St dd Gb G' ∧ BookAt Gb b B ∧ Ok B) (fun K hK => ?_) ?_
      · walk_at "rd"
        obtain ⟨l, e, hdl⟩ := hd
        exact ⟨dd, l, rfl, e, hdl, fun b B l' G' G1 e' d' s n hB ok => hK _ _ ⟨b, B, G1, rfl, ⟨⟨l', e', d'⟩, s, n⟩, hB, ok⟩⟩
      rintro _ G1 ⟨b, B, Gb, rfl, st1, hB, ok⟩
      refine seq_cut (fun δ' G' => ∃ (me : Int), δ' = [some x, some (.ref dd), some (.int i), some b, some (.int me), o5, o6, o7, o8, o9, o10, o11, o12, o13] ∧ St dd Gb G') (fun K hK => ?_) ?_
      · walk_at "rd"
        exact off_ st1.d (by omega) (by omega) fun r G' a' b' d' s' => hK _ _ ⟨r, rfl, st1.same d' s'⟩
      rintro _ G2 ⟨me, rfl, st2⟩
      refine seq_cut (fun δ' G' => ∃ du, δ' = [some x, some (.ref dd), some (.int i), some b, some (.int me), some (.ref du), o6, o7, o8, o9, o10, o11, o12, o13] ∧ Gb du = none ∧ St dd (updD Gb du (.lst [])) G') (fun K hK => ?_) ?_
      · walk_at "rd"
        exact ⟨Nat.zero_le _, fun du hdu => hK _ _ ⟨du, rfl, st2.fresh hdu, st2.new hdu⟩⟩
      rintro _ G3 ⟨du, rfl, ndu, st3⟩
      have lenT := times_len ok (me := me)
      have sT := times_lt ok (me := me)
      obtain ⟨T, eT⟩ : ∃ T, timesM B me = T := ⟨_, rfl⟩
      rw [eT] at lenT sT
      refine seq_cut (fun δ' G' => ∃ tm, δ' = [some x, some (.ref dd), some (.int i), some b, some (.int me), some (.ref du), some (.ref tm), o7, o8, o9, o10, o11, o12, o13] ∧ Gb tm = none ∧ tm ≠ du ∧ St dd (updD (updD Gb tm (.lst (T.map T5.d2))) du (.lst [])) G') (fun K hK => ?_) ?_
      · walk_at "rd"
        refine ⟨b, me, B, rfl, hB.sub ((Sub.new ndu).trans st3.s), ok, fun tm htm => ?_⟩
        obtain ⟨x1, x2⟩ := none_up (st3.fresh htm)
        have z := st3.new (c := .lst (T.map T5.d2)) htm
        rw [updD_comm (Ne.symm x2)] at z
        rw [eT]
        exact hK _ _ ⟨tm, rfl, x1, x2, z⟩
      rintro _ G4 ⟨tm, rfl, ntm, ntu, st4⟩
      refine seq_cut (fun δ' G' => ∃ o7 o8 o9 o10 : Option D, δ' = [some x, some (.ref dd), some (.int i), some b, some (.int me), some (.ref du), some (.ref tm), o7, o8, o9, o10, o11, o12, o13] ∧ St dd (updD (updD Gb tm (.lst (T.map T5.d2))) du (.lst ((pairs T).map clD))) G') (fun K hK => ?_) ?_
      · exact due_ok lenT st4 (by rw [updD_ne (Ne.symm ntu)]; exact ndu) updD_same fun o7 o8 o9 o10 G' s => hK _ _ ⟨o7, o8, o9, o10, rfl, s⟩
      rintro _ G5 ⟨o7, o8, o9, o10, rfl, st5⟩
      have ndu5 : updD Gb tm (.lst (T.map T5.d2)) du = none := by rw [updD_ne (Ne.symm ntu)]; exact ndu
      obtain ⟨Gc0, eGc⟩ : ∃ Gc0, updD (updD Gb tm (.lst (T.map T5.d2))) du (.lst ((pairs T).map clD)) = Gc0 := ⟨_, rfl⟩
      have hB5 : BookAt Gc0 b B := by rw [← eGc]; exact hB.sub ((Sub.new ntm).trans (Sub.new ndu5))
      have hdu5 : Gc0 du = some (.lst ((pairs T).map clD)) := by rw [← eGc]; exact updD_same
      rw [eGc] at st5
      obtain ⟨ab, lb, rfl, hab, hlb⟩ := hB5
      refine seq_cut (fun δ' G' => ∃ kp, δ' = [some x, some (.ref dd), some (.int i), some (.ref ab), some (.int me), some (.ref du), some (.ref tm), o7, o8, o9, o10, some (.ref kp), o12, o13] ∧ St dd (updD Gc0 kp (.lst lb)) G' ∧ Gc0 kp = none) (fun K hK => ?_) ?_
      · walk_at "rd"
        have es : seqOf G5 (.ref ab) = some lb := by unfold seqOf; dsimp only; rw [st5.at hab]
        have z : (match seqOf G5 (.ref ab) with
          | some l => ∀ p, G5 p = none → K [some x, some (.ref dd), some (.int i), some (.ref ab), some (.int me), some (.ref du), some (.ref tm), o7, o8, o9, o10, some (.ref p), o12, o13] (updD G5 p (.lst l))
          | none => False) := by
          rw [es]
          exact fun p hp => hK _ _ ⟨p, rfl, st5.new hp, st5.fresh hp⟩
        exact z
      rintro _ G6 ⟨kp, rfl, st6, nkp⟩
      have hBk : BookAt (updD Gc0 kp (.lst lb)) (.ref ab) B := ⟨ab, lb, rfl, keep_upd hab nkp, hlb.mono fun _ _ z => z.sub (Sub.new nkp)⟩
      have hKk : BookAt (updD Gc0 kp (.lst lb)) (.ref kp) B := ⟨kp, lb, rfl, updD_same, hlb.mono fun _ _ z => z.sub (Sub.new nkp)⟩
      have hDk : updD Gc0 kp (.lst lb) du = some (.lst ((pairs T).map clD)) := keep_upd hdu5 nkp
      obtain ⟨Gk, eGk⟩ : ∃ Gk, updD Gc0 kp (.lst lb) = Gk := ⟨_, rfl⟩
      rw [eGk] at st6 hBk hKk hDk
      simp only [sFor, iRange1]
      walk_at "rd"
      refine ⟨⟨by omega, by omega⟩, ?_⟩
      refine goFor_by (fun xs δ Gc => (∃ o12 o13 : Option D, δ = [some x, some (.ref dd), some (.int i), some (.ref ab), some (.int me), some (.ref du), some (.ref tm), o7, o8, o9, o10, some (.ref kp), o12, o13]) ∧ St dd Gk Gc ∧ ∃ i n, xs = rangeD i n) (fun _ _ _ _ => trivial) (fun δ Gc ⟨⟨o12, o13, e⟩, st', _⟩ => hM _ _ ⟨⟨_, _, _, _, _, _, _, _, _, _, _, _, e⟩, st'.d, i + 1, n, rfl⟩) (fun d xs δ Gc M' ⟨⟨o12, o13, e⟩, st', i', n', ex⟩ hM' => ?_) _ _ _ ⟨⟨_, _, rfl⟩, st6, 0, 2, rfl⟩
      subst e
      cases n' with
      | zero => cases ex
      | succ n' =>
        rw [rangeD_succ] at ex
        cases ex
        refine seq_cut (fun δ' G' => ∃ fo, δ' = [some x, some (.ref dd), some (.int i), some (.ref ab), some (.int me), some (.ref du), some (.ref tm), o7, o8, o9, o10, some (.ref kp), some (.int i'), some (.ref fo)] ∧ St dd Gk G' ∧ Gk fo = none ∧ fo ≠ dd ∧ G' fo = some (.lst ((sortC (pairs T)).map clD))) (fun K hK => ?_) ?_
        · walk_at "rd"
          refine ⟨.ref ab, me, B, rfl, hBk.sub st'.s, ok, fun fo hfo => ?_⟩
          rw [eT, clash_eq sT]
          exact hK _ _ ⟨fo, rfl, st'.new0 hfo, st'.fresh hfo, st'.ne hfo, updD_same⟩
        rintro _ G7 ⟨fo, rfl, st7, nfo, nfd, hfo⟩
        have lenP := pairs_few2 lenT
        have lenC : (sortC (pairs T)).length ≤ 90000 := by unfold sortC; rw [List.length_mergeSort]; exact lenP
        have lc2 : ∀ c ∈ sortC (pairs T), c.length = 2 := fun c hc => pairs_len2 c ((List.mergeSort_perm _ _).mem_iff.mp hc)
        have ne2 : ∀ c ∈ pairs T, c ≠ [] := fun c hc z => by have := pairs_len2 c hc; rw [z] at this; cases this
        walk_at "rd"
        refine sorted_cl ne2 (st7.at hDk) (by omega) fun sp hsp => ?_
        have st8 := st7.new0 (c := .lst ((sortC (pairs T)).map clD)) hsp
        have hfo8 := keep_upd (c := .lst ((sortC (pairs T)).map clD)) hfo hsp
        refine ⟨.ref fo, .ref sp, .list ((sortC (pairs T)).map clP), rfl, .lst hfo8 (rdd_map fun c _ => rdd_cl c), .lst updD_same (rdd_map fun c _ => rdd_cl c), Nat.le_trans (dep_cls _) (by decide), lean_cls (by omega) lc2, ?_⟩
        simp only [blD_bl, Bool.not_true]
        walk_at "rd"
        refine ⟨_, _, (hBk.sub st8.s).dd, (hKk.sub st8.s).dd, ok.shaped, ok.shaped, ?_⟩
        rw [SeqAt.eqv_refl _ (SeqAt.canLay_of_shaped ok.shaped)]
        simp only [blD_bl, Bool.not_true]
        walk_at "rd"
        simp only [dBM]
        walk_at "rd"
        refine ⟨by unfold tyR; simp only [hfo8], Nat.zero_le _, ?_⟩
        simp only [mAppend]
        refine ⟨_, hfo8, by rw [List.length_map]; omega, ?_⟩
        exact hM' _ _ ⟨⟨_, _, rfl⟩, st8.putN nfo nfd, i' + 1, n', rfl⟩
  · rintro δ G1 -
    walk_at "rd"
    refine ⟨Nat.zero_le _, fun p hp => ?_⟩
    refine ⟨.ref p, 3, [], rfl, ⟨p, [], rfl, updD_same, .nil⟩, ⟨(fun _ h => by cases h), Nat.zero_le _⟩, fun p2 hp2 => ⟨Nat.zero_le _, fun p3 hp3 => ?_⟩⟩
    have e0 : (sortC (pairs1 (sortT (timesM [] 3)))).map clD = [] := by
      have e1 : sortT (timesM [] 3) = [] := List.mergeSort_nil
      rw [e1]
      have e2 : sortC (pairs1 []) = [] := List.mergeSort_nil
      rw [e2]
      rfl
    rw [e0] at hp3 ⊢
    refine ⟨.list [], .list [], .lst (keep_upd updD_same hp3) .nil, .lst updD_same .nil, by decide +kernel, by decide +kernel, ?_⟩
    have e3 : PyData.eqv (.list []) (.list []) = true := by simp [PyData.eqv, PyData.eqvAll]
    rw [e3]
    exact frg_of (q _)
end K15
namespace K15
open PySem PySem.Spec PyProof.Rows L2 Cc
def d_times_of : He.DefD := ⟨("times_of", none), "times_of", "times_of", defArgs s_times_of, defBody s_times_of, defScope s_times_of, [], []⟩
def d_clashes : He.DefD := ⟨("clashes", none), "clashes", "clashes", defArgs s_clashes, defBody s_clashes, defScope s_clashes, [], []⟩
def d__law_dice : He.DefD := ⟨("_law_dice", none), "_law_dice", "_law_dice", defArgs s__law_dice, defBody s__law_dice, defScope s__law_dice, [], []⟩
def d__law_off : He.DefD := ⟨("_law_off", none), "_law_off", "_law_off", defArgs s__law_off, defBody s__law_off, defScope s__law_off, [], []⟩
def d__law_alike : He.DefD := ⟨("_law_alike", none), "_law_alike", "_law_alike", defArgs s__law_alike, defBody s__law_alike, defScope s__law_alike, [], []⟩
def d__law_book : He.DefD := ⟨("_law_book", none), "_law_book", "_law_book", defArgs s__law_book, defBody s__law_book, defScope s__law_book, [], []⟩
def d__law_times : He.DefD := ⟨("_law_times", none), "_law_times", "_law_times", defArgs s__law_times, defBody s__law_times, defScope s__law_times, [], []⟩
def d_law : He.DefD := ⟨("law", none), "law", "law", defArgs s_law, defBody s_law, defScope s_law, [], []⟩
def fns : List He.DefD := [d_times_of, d_clashes, d__law_dice, d__law_off, d__law_alike, d__law_book, d__law_times, d_law]
def fas : List He.Fa := [.glo "times_of", .glo "clashes", .glo "_law_dice", .glo "_law_off", .glo "_law_alike", .glo "_law_book", .glo "_law_times", .glo "law", .free "abs", .free "all", .free "bool", .free "enumerate", .free "int", .free "isinstance", .free "len", .free "list", .free "range", .free "sorted", .free "str", .free "tuple", .glo "FREE"]
def tfs : List He.Defn := [("_law_book", none)]
def exB (K : PySem.W.Frag) : Bool := (He.tupB K "FREE" [(.str "no"), (.str "passed")])
abbrev R : PySem.W.OpenRow := PySem.W.OpenLaw.row PySem.Challenge.rw_crosscalls_k15_clashes_of_books
abbrev hk : PySem.W.Hook := He.hookX 5 fas fns [] tfs exB
def ob (s : PySem.W.SharedT) : He.AlX := He.obsX 5 fas fns [] tfs exB (HandSHeadRun.getT s)
theorem ob_eq (s : PySem.W.SharedT) : ob s = hk.obs s.abs := He.obsX_eq (HandSHeadRun.getT_eq s)
theorem run (w : World) : HandSHeadRun.RunEq R (PySem.W.view R.prog [10]) hk ob 800 ["FREE", "times_of", "clashes", "_law_dice", "_law_off", "_law_alike", "_law_book", "_law_times"] w := by
  intro os
  kernel_rfl
end K15
namespace K15
open PySem PySem.Spec PyProof.Rows L2 Cc
abbrev TT (K : PySem.W.Frag) : List (Addr × Str) := [((He.cT K ("_law_book", none)).2, ("_law_book" : Str) ++ ".<locals>." ++ "<lambda>")]
theorem txt {w : World} {K : PySem.W.Frag} {h : Heap} {mg : Str → Option Value} (X : K.In h) (G : h.Ns mainGlobals mg) (Y : He.SaysX fas fns [] tfs exB w h K) : Txt K mg := by
  have e := Y.more
  simp only [exB, Bool.and_eq_true] at e
  exact { c_FREE := glo_tup X G [(.str "no"), (.str "passed")] [(.str "no"), (.str "passed")] (Y.t.d.facts (List.mem_of_getElem? (i := 20) rfl)) e (fun T H => (.cons (.str _) (.cons (.str _) .nil))), f_abs := He.free_ok X G (Y.t.d.facts (List.mem_of_getElem? (i := 8) rfl)), f_all := He.free_ok X G (Y.t.d.facts (List.mem_of_getElem? (i := 9) rfl)), f_bool := He.free_ok X G (Y.t.d.facts (List.mem_of_getElem? (i := 10) rfl)), f_enumerate := He.free_ok X G (Y.t.d.facts (List.mem_of_getElem? (i := 11) rfl)), f_int := He.free_ok X G (Y.t.d.facts (List.mem_of_getElem? (i := 12) rfl)), f_isinstance := He.free_ok X G (Y.t.d.facts (List.mem_of_getElem? (i := 13) rfl)), f_len := He.free_ok X G (Y.t.d.facts (List.mem_of_getElem? (i := 14) rfl)), f_list := He.free_ok X G (Y.t.d.facts (List.mem_of_getElem? (i := 15) rfl)), f_range := He.free_ok X G (Y.t.d.facts (List.mem_of_getElem? (i := 16) rfl)), f_sorted := He.free_ok X G (Y.t.d.facts (List.mem_of_getElem? (i := 17) rfl)), f_str := He.free_ok X G (Y.t.d.facts (List.mem_of_getElem? (i := 18) rfl)), f_tuple := He.free_ok X G (Y.t.d.facts (List.mem_of_getElem? (i := 19) rfl)) }
theorem ends {w : World} {P : Program} {K : PySem.W.Frag} {h base : Heap} {mg : Str → Option Value} (X : K.In h) (G : h.Ns mainGlobals mg) (Y : He.SaysX fas fns [] tfs exB w h K) (TBs : ∀ q ∈ tfs, LamX.TabB base mg (He.cT K q).1 (He.cT K q).2) {fd : FuncData} (Fd : FunD K d_law.name d_law.qual d_law.params d_law.body d_law.scope [] [] (He.ga K "law") fd) : FnOk P w K mg base (L2.CX P w) 7 (He.ga K "law") fd ["_law_script"] (upF (K, TT K) sdLaw) := by
  have Tx := txt X G Y
  have c := Y.t.d
  have F_times_of : Fn P w (K, TT K) mg base "times_of" 1 ["book", "me"] sd_times_of := mkFn (cv := fun _ => True) X G c (d := d_times_of) (List.mem_of_getElem? (i := 0) rfl) rfl rfl rfl (List.mem_of_getElem? (i := 0) rfl) sc_times_of trivial (fun ds G R EX h => by obtain ⟨a, m, l, rfl, _⟩ := h; rfl) (bd_times_of Tx ) pure_times_of (fun _ _ _ _ _ _ us hl => match us, hl with | [_, _], _ => rfl)
  have F_clashes : Fn P w (K, TT K) mg base "clashes" 2 ["book", "me"] sd_clashes := mkFn (cv := fun _ => True) X G c (d := d_clashes) (List.mem_of_getElem? (i := 1) rfl) rfl rfl rfl (List.mem_of_getElem? (i := 1) rfl) sc_clashes trivial (fun ds G R EX h => by obtain ⟨a, m, l, rfl, _⟩ := h; rfl) (bd_clashes Tx F_times_of) pure_clashes (fun _ _ _ _ _ _ us hl => match us, hl with | [_, _], _ => rfl)
  have F__law_dice : Fn P w (K, TT K) mg base "_law_dice" 1 ["_law_script", "_law_k"] sd__law_dice := mkFn (cv := fun _ => True) X G c (d := d__law_dice) (List.mem_of_getElem? (i := 2) rfl) rfl rfl rfl (List.mem_of_getElem? (i := 2) rfl) sc__law_dice trivial len_dice (bd__law_dice Tx ) pure_dice (fun _ _ _ _ _ _ us hl => match us, hl with | [_, _], _ => rfl)
  have F__law_off : Fn P w (K, TT K) mg base "_law_off" 1 ["_law_d", "_law_most"] sd__law_off := mkFn (cv := fun _ => True) X G c (d := d__law_off) (List.mem_of_getElem? (i := 3) rfl) rfl rfl rfl (List.mem_of_getElem? (i := 3) rfl) sc__law_off trivial len_off (bd__law_off Tx ) pure_offF (fun _ _ _ _ _ _ us hl => match us, hl with | [_, _], _ => rfl)
  have A__law_alike : ∀ k, Fn P w (K, TT K) mg base "_law_alike" k ["_law_found", "_law_due"] (sd__law_alike k) := fun k => by
    induction k with
    | zero => exact mkFn0 X G c (d := d__law_alike) (List.mem_of_getElem? (i := 4) rfl) rfl rfl rfl (List.mem_of_getElem? (i := 4) rfl) (fun _ _ _ _ h => h) (fun _ _ _ _ _ _ us hl => match us, hl with | [_, _], _ => rfl)
    | succ k ih => exact mkFn (cv := fun _ => True) X G c (d := d__law_alike) (List.mem_of_getElem? (i := 4) rfl) rfl rfl rfl (List.mem_of_getElem? (i := 4) rfl) sc__law_alike trivial (len_alike k) (bd__law_alike Tx ih) (pure_alike k) (fun _ _ _ _ _ _ us hl => match us, hl with | [_, _], _ => rfl)
  have F__law_alike := A__law_alike 6
  have F__law_book : Fn P w (K, TT K) mg base "_law_book" 3 ["_law_d"] sd__law_book := mkFn (cv := fun v => v = .ref (He.cT K ("_law_book", none)).1) X G c (d := d__law_book) (List.mem_of_getElem? (i := 5) rfl) rfl rfl rfl (List.mem_of_getElem? (i := 5) rfl) sc__law_book rfl (fun ds G R EX h => by obtain ⟨a, l, rfl, _⟩ := h; rfl) (bd__law_book Tx F__law_off (TBs _ (List.mem_of_getElem? (i := 0) rfl)) (List.mem_of_getElem? (i := 0) rfl) (fun q hq _ => by rw [List.mem_singleton.mp hq])) pure_law_book (fun _ _ _ _ _ _ us hl => match us, hl with | [_], _ => rfl)
  have F__law_times : Fn P w (K, TT K) mg base "_law_times" 1 ["_law_book_here", "_law_me"] sd__law_times := mkFn (cv := fun _ => True) X G c (d := d__law_times) (List.mem_of_getElem? (i := 6) rfl) rfl rfl rfl (List.mem_of_getElem? (i := 6) rfl) sc__law_times trivial (fun ds G R EX h => by obtain ⟨a, m, l, rfl, _⟩ := h; rfl) (bd__law_times Tx ) pure_law_times (fun _ _ _ _ _ _ us hl => match us, hl with | [_, _], _ => rfl)
  exact okF (cv := fun _ => True) Fd sc_law trivial len_law (bd_law Tx F__law_alike F__law_book F__law_dice F__law_off F__law_times F_clashes) pure_law
end K15
open PySem PySem.W PySem.Calls PyProof.Rows
theorem PySem.Challenge.cw_crosscalls_k15_clashes_of_books_holds : PySem.Challenge.rw_crosscalls_k15_clashes_of_books.Holds := by
  w_on; o_law
  refine HandSHeadRun.head_any (r := OpenLaw.row PySem.Challenge.rw_crosscalls_k15_clashes_of_books) (q := view (OpenLaw.row PySem.Challenge.rw_crosscalls_k15_clashes_of_books).prog [10]) (H := K15.hk) (ob := K15.ob) (M := 800) (loose := ["FREE", "times_of", "clashes", "_law_dice", "_law_off", "_law_alike", "_law_book", "_law_times"]) (d := HandSHeadRun.topDef (OpenLaw.row PySem.Challenge.rw_crosscalls_k15_clashes_of_books).prog 10) (kwd := []) K15.ob_eq
    (by kernel_rfl) (fun s => by kernel_rfl) K15.run (by kernel_rfl) (by kernel_rfl) (by kernel_rfl) (by rfl) (by first | assumption | decide +kernel) (by decide +kernel) ⟨rfl, rfl, rfl, rfl, rfl, by decide +kernel⟩ ?hw ?hc
  case hw => w_witness2
  case hc =>
    refine LamX.walk_ofTsE (l := PySem.Challenge.rw_crosscalls_k15_clashes_of_books) (n := 63) (k := 7) (x := "_law_script") (CX := fun w => L2.CX (PySem.Challenge.rw_crosscalls_k15_clashes_of_books).prog w) rfl (by decide) (by kernel_rfl) ⟨rfl, by decide, by decide⟩ ?F (fun w H s e s' h => Cc.cx_end h)
    intro w mg fa h Y G hmg0
    obtain ⟨K, KX, c⟩ := Y
    have hmg : mg ("law" : PySem.Str) = some (.ref fa) := by
      have e : (HandSHeadRun.topDef (OpenLaw.row PySem.Challenge.rw_crosscalls_k15_clashes_of_books).prog 10).name = ("law" : PySem.Str) := by kernel_rfl
      rw [← e]
      exact hmg0
    exact ⟨K, KX, Cc.law_at (T := K15.TT K) (d := K15.d_law) rfl KX c G hmg (List.mem_of_getElem? (i := 7) rfl) rfl rfl rfl (List.mem_of_getElem? (i := 7) rfl) (fun p hp => ⟨_, List.mem_of_getElem? (i := 0) rfl, by rw [List.mem_singleton.mp hp]⟩) (fun _ _ _ _ _ _ us hl => match us, hl with | [_], _ => rfl) fun base _ _ TBs fd Fd => K15.ends KX G c TBs Fd⟩
