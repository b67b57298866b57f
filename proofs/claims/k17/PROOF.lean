import PyProof.Rows.All
import HandS.Words
import HandS.Head0
import HandS.Head1
import HandS.Head2
import HandS.HeadEnd
import HandS.HeadHook4
import HandS.HeadWalk
import HandS.NestedK
import KE.KStateDown
import HandS.ExcInit
import HandS.ExcField
import HandS.ClsMeth
import PySem.Challenge.RW_crosscalls_k17_written_and_read
import Lean
import Wide.All
import OpenK.AllK
import Wide.FinOn
import HandS.ForMost
import HandS.ForExc
import HandS.Lambda
import HandS.TupAny
import HandS.IsInst
import HandS.Deep
import HandS.Conv
import HandS.Codes
import HandS.Keys
import HandS.Defaults
import HandS.SetKeys
import HandS.ExcCtx
import KE.SortKeyHeap
import KE.SortData
import HandS.SortKw
import HandS.Style
import HandS.More
import KE.KDictPairs
import HandS.Zip
import HandS.SetFor
import HandS.DictTup
import HandS.TupSets
import PyProof.NeData
import HandS.Text
import HandS.Set
import HandS.Strs
import HandS.Hot
import HandS.HotCalls
import HandS.ExcIs
import HandS.ExcInitHot
set_option Elab.async false
set_option linter.all false
set_option maxRecDepth 100000
set_option maxHeartbeats 0
/-! ### a tuple in a tuple of the module's: where it lies -/
namespace Cc
open PySem PySem.Spec PyProof.Rows L2
def itAt (x : Str) (i : Nat) (K : PySem.W.Frag) : Addr := match K.lookup (He.ga K x) with
  | some o => (match o.data with
    | .seq its _ => (match its[i]? with
      | some (.ref b) => b
      | _ => 0)
    | _ => 0)
  | none => 0
def isTupC : Value → Bool
  | .type c => decide (c = "tuple")
  | _ => false
def tupBA (K : PySem.W.Frag) (a : Addr) (vs : List He.Dv) : Bool := match K.lookup a with
  | some o => isTupC o.cls && (o.dict.isNone && (match o.data with
    | .seq its _ => decide (its.size ≤ sizeLine) && He.relAll (vs.map (He.Dv.v K)) its.toList
    | _ => false))
  | none => false
end Cc
/-! ### an error class with a field: its facts, as Bools of what is looked at -/
namespace Cc
open PySem PySem.Spec PyProof.Rows L2
def oexB (K : PySem.W.Frag) (C : Addr) : Bool := (match K.lookup C with
  | some ⟨.type "type", _, .cls cd, sl⟩ => (match cd.mro, sl.toList with
    | .ref C' :: bm, [_, _, _, _, some (.builtin n), _] => C' == C && (n == "ValueError.__new__" && (!cd.hasDel && (cd.hasDict && PySem.HandSPX.refsVE bm)))
    | _, _ => false)
  | _ => false) && (He.eqO (PySem.W.findIn K (.ref C) "__setattr__") (some (some (.builtin "object.__setattr__"))) && (decide (PySem.W.subIn K (.ref C) (.type "BaseException") = some true) && (decide (PySem.W.typeIn K (.ref C) = some (.type "type")) && PySem.W.keepIn K (.ref C))))
theorem oexB_ok {K : PySem.W.Frag} {C : Addr} (h : oexB K C = true) : OexC K C := by
  unfold oexB at h
  simp only [Bool.and_eq_true] at h
  obtain ⟨q, h2, h3, h4, h5⟩ := h
  refine ⟨?_, He.eqO_ok h2, of_decide_eq_true h3, of_decide_eq_true h4, h5⟩
  split at q
  · rename_i dd cd sl ho
    split at q
    · rename_i C' bm k0 k1 k2 k3 n k5 hm hs
      simp only [Bool.and_eq_true, beq_iff_eq, Bool.not_eq_true'] at q
      obtain ⟨rfl, rfl, hdel, hdi, ht⟩ := q
      obtain ⟨nm, bs, mro, ns, qn, hd, sn, sub, ab, col, del⟩ := cd
      dsimp only at hm hdel hdi
      subst hm hdel hdi
      have hsl : sl = #[k0, k1, k2, k3, some (.builtin "ValueError.__new__"), k5] := by
        obtain ⟨l⟩ := sl
        simp only at hs
        rw [hs]
      subst hsl
      exact ⟨_, _, _, _, bm, _, _, _, _, _, _, _, _, _, _, ho, ht⟩
    · cases q
  · cases q
/-- an error class's facts (as excCB) -/
def excCZ (K : PySem.W.Frag) (C : Addr) : Bool := He.eqO (PySem.W.findIn K (.ref C) "__getattribute__") (some (some (.builtin "BaseException.__getattribute__"))) && (He.eqO (PySem.W.findIn K (.ref C) "__getattr__") (some none) && (decide (PySem.W.subIn K (.ref C) (.type "BaseException") = some true) &&
  (PySem.W.hasDictIn K C && (He.eqO (PySem.W.findIn K (.ref C) "__class__") (some (some (.builtin "object.__class__"))) && (He.eqO (PySem.W.specialIn K (.builtin "object.__class__") "__get__") (some (some (.builtin "getset_descriptor.__get__"))) &&
  (decide (PySem.W.takesIn K (.builtin "object.__class__") = some true) && decide (PySem.W.mroIn K C (.type "object") = some true)))))))
/-- an own base's __init__ is ValueError's -/
def baseB (K : PySem.W.Frag) (B : Addr) : Bool := PySem.W.keepIn K (.ref B) && (PySem.W.readsIn K B (.type "type") && (He.eqO (PySem.W.specialIn K (.ref B) "__getattribute__") (some (some (.builtin "type.__getattribute__"))) && (match PySem.W.findCls K (.ref B) (.type "type") "__init__" with
  | some (.val (.builtin n)) => n == "ValueError.__init__"
  | _ => false)))
theorem baseB_ok {K : PySem.W.Frag} {B : Addr} (h : baseB K B = true) : PySem.W.keepIn K (.ref B) = true ∧ ClX.CRead K B (.type "type") ∧ PySem.W.findCls K (.ref B) (.type "type") "__init__" = some (.val (.builtin "ValueError.__init__")) := by
  unfold baseB at h
  simp only [Bool.and_eq_true] at h
  obtain ⟨h1, h2, h3, h4⟩ := h
  refine ⟨h1, ⟨h2, He.eqO_ok h3⟩, ?_⟩
  split at h4
  · rename_i n e
    rw [beq_iff_eq] at h4
    subst h4
    exact e
  · cases h4
/-! ### the Hook, over the module's names' objects and the classes' statics -/
open He in
def obsY (n : Nat) (fa : List Fa) (fn : List DefD) (ts : List Tab) (tf : List Defn) (ex : PySem.W.Frag → Bool) (g : Addr → Option Obj) : AlX := (obsT fa fn ts (frT g (cStatics :: asD g n)), ex (frT g (cStatics :: asD g n)) && tabsB g tf (frT g (cStatics :: asD g n)))
open He in
theorem saysY_of {as : List Addr} {fa : List Fa} {fn : List DefD} {ts : List Tab} {tf : List Defn} {ex : PySem.W.Frag → Bool} {w : World} {h : Heap} (e : ((obsT fa fn ts (frT h.get? as), ex (frT h.get? as) && tabsB h.get? tf (frT h.get? as)) : AlX) = valX fn ts w) : SaysX fa fn ts tf ex w h (frT h.get? as) := by
  have e1 : obsT fa fn ts (frT h.get? as) = valT fn ts w := congrArg (fun z : AlX => z.1) e
  have e2 : (ex (frT h.get? as) && tabsB h.get? tf (frT h.get? as)) = true := congrArg (fun z : AlX => z.2) e
  obtain ⟨h1, h2⟩ := ba e2
  have key : ∀ p ∈ tf, PySem.W.codeHdIn (frT h.get? as) (cT (frT h.get? as) p).1 (cT (frT h.get? as) p).2 = true ∧ ∃ o, h.get? (cT (frT h.get? as) p).2 = some o ∧ emptyTab o = true := fun p hp => by
    obtain ⟨h3, h4⟩ := ba (List.all_eq_true.mp h2 p hp)
    refine ⟨h3, ?_⟩
    cases q : h.get? (cT (frT h.get? as) p).2 with
    | none => rw [q] at h4; cases h4
    | some o => rw [q] at h4; exact ⟨o, rfl, h4⟩
  refine ⟨e1, h1, fun p hp => (key p hp).1, fun p hp => ?_, fun p hp => ?_⟩
  · obtain ⟨_, o, q, z⟩ := key p hp
    exact frT_none q z
  · obtain ⟨_, o, q, z⟩ := key p hp
    rw [q, emptyTab_eq z]
open He in
def hookY (n : Nat) (fa : List Fa) (fn : List DefD) (ts : List Tab) (tf : List Defn) (ex : PySem.W.Frag → Bool) : PySem.W.Hook where
  α := AlX
  obs := fun s => obsY n fa fn ts tf ex s.heap.get?
  val := fun w => valX fn ts w
  says := fun w h => ∃ K : PySem.W.Frag, K.In h ∧ SaysX fa fn ts tf ex w h K
  of := fun _ _ e => ⟨_, frT_in, saysY_of e⟩
  keeps := fun _ _ _ ⟨K, hK, c⟩ k => ⟨K, PySem.W.Frag.In.keeps hK k, ⟨c.t, c.more, c.hd, c.out, fun p hp => k _ _ (c.empty p hp)⟩⟩
theorem obsY_eq {n : Nat} {fa : List He.Fa} {fn : List He.DefD} {ts : List He.Tab} {tf : List He.Defn} {ex : PySem.W.Frag → Bool} {g : Addr → Option Obj} {s : Shared} (h : ∀ a, g a = s.heap.get? a) : obsY n fa fn ts tf ex g = (hookY n fa fn ts tf ex).obs s := by
  have e : g = s.heap.get? := funext h
  rw [e] <;> rfl
end Cc
/-! ### k17: the defs' statements -/
namespace K17
open PySem PySem.Spec PyProof.Rows L2
def top (i : Nat) : Stmt := PySem.Challenge.pw_crosscalls_k17_written_and_read.main.body.getD i (.Pass ⟨0, 0, 0, 0⟩)
abbrev s_is_between : Stmt := top 14
abbrev s_is_plan : Stmt := top 15
abbrev s_need_plan : Stmt := top 16
abbrev s_need_hand : Stmt := top 19
abbrev s_need_guests : Stmt := top 23
abbrev s_written : Stmt := top 24
abbrev s_number_of : Stmt := top 25
abbrev s_guests_of : Stmt := top 26
abbrev s_read : Stmt := top 27
abbrev s__law_dice : Stmt := top 29
abbrev s__law_off : Stmt := top 30
abbrev s__law_alike : Stmt := top 31
abbrev s__law_mixed : Stmt := top 32
abbrev s__law_plan : Stmt := top 34
abbrev s__law_number : Stmt := top 35
abbrev s__law_line : Stmt := top 36
abbrev s__law_changed : Stmt := top 37
abbrev s__law_is_right : Stmt := top 38
abbrev s_law : Stmt := top 39
abbrev s_btH : Stmt := inClass (top 7) 0
def d_bt : He.DefD := ⟨("BadText", some "__init__"), "__init__", "BadText.__init__", defArgs s_btH, defBody s_btH, defScope s_btH, [], []⟩
end K17
namespace K17
open PySem PySem.Spec PyProof.Rows L2
abbrev s_refH : Stmt := top 33
def d_is_between : He.DefD := ⟨("is_between", none), "is_between", "is_between", defArgs s_is_between, defBody s_is_between, defScope s_is_between, [], []⟩
def d_is_plan : He.DefD := ⟨("is_plan", none), "is_plan", "is_plan", defArgs s_is_plan, defBody s_is_plan, defScope s_is_plan, [], []⟩
def d_need_plan : He.DefD := ⟨("need_plan", none), "need_plan", "need_plan", defArgs s_need_plan, defBody s_need_plan, defScope s_need_plan, [], []⟩
def d_need_hand : He.DefD := ⟨("need_hand", none), "need_hand", "need_hand", defArgs s_need_hand, defBody s_need_hand, defScope s_need_hand, [], []⟩
def d_need_guests : He.DefD := ⟨("need_guests", none), "need_guests", "need_guests", defArgs s_need_guests, defBody s_need_guests, defScope s_need_guests, [], []⟩
def d_written : He.DefD := ⟨("written", none), "written", "written", defArgs s_written, defBody s_written, defScope s_written, [], []⟩
def d_number_of : He.DefD := ⟨("number_of", none), "number_of", "number_of", defArgs s_number_of, defBody s_number_of, defScope s_number_of, [], []⟩
def d_guests_of : He.DefD := ⟨("guests_of", none), "guests_of", "guests_of", defArgs s_guests_of, defBody s_guests_of, defScope s_guests_of, [], []⟩
def d_read : He.DefD := ⟨("read", none), "read", "read", defArgs s_read, defBody s_read, defScope s_read, [], []⟩
def d__law_dice : He.DefD := ⟨("_law_dice", none), "_law_dice", "_law_dice", defArgs s__law_dice, defBody s__law_dice, defScope s__law_dice, [], []⟩
def d__law_off : He.DefD := ⟨("_law_off", none), "_law_off", "_law_off", defArgs s__law_off, defBody s__law_off, defScope s__law_off, [], []⟩
def d__law_alike : He.DefD := ⟨("_law_alike", none), "_law_alike", "_law_alike", defArgs s__law_alike, defBody s__law_alike, defScope s__law_alike, [], []⟩
def d__law_mixed : He.DefD := ⟨("_law_mixed", none), "_law_mixed", "_law_mixed", defArgs s__law_mixed, defBody s__law_mixed, defScope s__law_mixed, [], []⟩
def d__law_plan : He.DefD := ⟨("_law_plan", none), "_law_plan", "_law_plan", defArgs s__law_plan, defBody s__law_plan, defScope s__law_plan, [], []⟩
def d__law_number : He.DefD := ⟨("_law_number", none), "_law_number", "_law_number", defArgs s__law_number, defBody s__law_number, defScope s__law_number, [], []⟩
def d__law_line : He.DefD := ⟨("_law_line", none), "_law_line", "_law_line", defArgs s__law_line, defBody s__law_line, defScope s__law_line, [], []⟩
def d__law_changed : He.DefD := ⟨("_law_changed", none), "_law_changed", "_law_changed", defArgs s__law_changed, defBody s__law_changed, defScope s__law_changed, [], []⟩
def d__law_is_right : He.DefD := ⟨("_law_is_right", none), "_law_is_right", "_law_is_right", defArgs s__law_is_right, defBody s__law_is_right, defScope s__law_is_right, [], []⟩
def d_law : He.DefD := ⟨("law", none), "law", "law", defArgs s_law, defBody s_law, defScope s_law, [], []⟩
def d_ref : He.DefD := ⟨("_law_refused", none), "_law_refused", "_law_refused", defArgs s_refH, defBody s_refH, defScope s_refH, [], []⟩
def fns : List He.DefD := [d_is_between, d_is_plan, d_need_plan, d_need_hand, d_need_guests, d_written, d_number_of, d_guests_of, d_read, d__law_dice, d__law_off, d__law_alike, d__law_mixed, d__law_plan, d__law_number, d__law_line, d__law_changed, d__law_is_right, d_law, d_ref, d_bt]
def fas : List He.Fa := [.glo "is_between", .glo "is_plan", .glo "need_plan", .glo "need_hand", .glo "need_guests", .glo "written", .glo "number_of", .glo "guests_of", .glo "read", .glo "_law_dice", .glo "_law_off", .glo "_law_alike", .glo "_law_mixed", .glo "_law_plan", .glo "_law_number", .glo "_law_line", .glo "_law_changed", .glo "_law_is_right", .glo "law", .glo "_law_refused", .free "ValueError", .free "abs", .free "all", .free "bool", .free "enumerate", .free "int", .free "isinstance", .free "len", .free "list", .free "min", .free "range", .free "set", .free "sorted", .free "str", .free "tuple", .exc "BadHand", .glo "BadHand", .exc "BadPlan", .glo "BadPlan", .str "FIGURES" "0123456789", .int "HANDS" 8, .int "MOST_BEGIN" 999, .int "MOST_EVERY" 100, .int "MOST_GUESTS" 6, .int "MOST_LONG" 50, .int "MOST_MANY" 12, .str "NONE" "-", .glo "CallError", .glo "BadWord", .glo "NoMeeting", .glo "BadLetter", .glo "BadText", .exm "BadHand" "CallError" true, .exm "BadPlan" "CallError" true, .exm "BadText" "CallError" true, .noat "BadText" "row", .meth "BadText" "__init__"]
def tfs : List He.Defn := [("_law_is_right", none), ("law", none)]
def exL (K : PySem.W.Frag) : List Bool := [Cc.excCZ K (He.ga K "BadHand"), decide (PySem.W.kitOne K (.ref (He.ga K "BadHand")) (.ref (He.ga K "BadHand")) = some true), decide (PySem.W.kitOne K (.ref (He.ga K "BadHand")) (.ref (He.ga K "BadPlan")) = some false), decide (PySem.W.kitOne K (.ref (He.ga K "BadHand")) (.ref (He.ga K "BadWord")) = some false), decide (PySem.W.kitOne K (.ref (He.ga K "BadHand")) (.ref (He.ga K "NoMeeting")) = some false), decide (PySem.W.kitOne K (.ref (He.ga K "BadHand")) (.ref (He.ga K "BadLetter")) = some false), decide (PySem.W.kitOne K (.ref (He.ga K "BadHand")) (.ref (He.ga K "BadText")) = some false), decide (PySem.W.kitOne K (.ref (He.ga K "BadHand")) (.type "ValueError") = some true), Cc.excCZ K (He.ga K "BadPlan"), decide (PySem.W.kitOne K (.ref (He.ga K "BadPlan")) (.ref (He.ga K "BadHand")) = some false), decide (PySem.W.kitOne K (.ref (He.ga K "BadPlan")) (.ref (He.ga K "BadPlan")) = some true), decide (PySem.W.kitOne K (.ref (He.ga K "BadPlan")) (.ref (He.ga K "BadWord")) = some false), decide (PySem.W.kitOne K (.ref (He.ga K "BadPlan")) (.ref (He.ga K "NoMeeting")) = some false), decide (PySem.W.kitOne K (.ref (He.ga K "BadPlan")) (.ref (He.ga K "BadLetter")) = some false), decide (PySem.W.kitOne K (.ref (He.ga K "BadPlan")) (.ref (He.ga K "BadText")) = some false), decide (PySem.W.kitOne K (.ref (He.ga K "BadPlan")) (.type "ValueError") = some true), Cc.excCZ K (He.ga K "BadText"), decide (PySem.W.kitOne K (.ref (He.ga K "BadText")) (.ref (He.ga K "BadHand")) = some false), decide (PySem.W.kitOne K (.ref (He.ga K "BadText")) (.ref (He.ga K "BadPlan")) = some false), decide (PySem.W.kitOne K (.ref (He.ga K "BadText")) (.ref (He.ga K "BadWord")) = some false), decide (PySem.W.kitOne K (.ref (He.ga K "BadText")) (.ref (He.ga K "NoMeeting")) = some false), decide (PySem.W.kitOne K (.ref (He.ga K "BadText")) (.ref (He.ga K "BadLetter")) = some false), decide (PySem.W.kitOne K (.ref (He.ga K "BadText")) (.ref (He.ga K "BadText")) = some true), decide (PySem.W.kitOne K (.ref (He.ga K "BadText")) (.type "ValueError") = some true), decide (([(He.cT K ("_law_is_right", none)).2, (He.cT K ("law", none)).2] : List Addr).Nodup), L2.xfB K (He.ga K "BadText"), Cc.oexB K (He.ga K "BadText"), Cc.baseB K (He.ga K "CallError")]
def exB (K : PySem.W.Frag) : Bool := (exL K).all id
abbrev R : PySem.W.OpenRow := PySem.W.OpenLaw.row PySem.Challenge.rw_crosscalls_k17_written_and_read
abbrev hk : PySem.W.Hook := Cc.hookY 5 fas fns [] tfs exB
def ob (s : PySem.W.SharedT) : He.AlX := Cc.obsY 5 fas fns [] tfs exB (HandSHeadRun.getT s)
theorem ob_eq (s : PySem.W.SharedT) : ob s = hk.obs s.abs := Cc.obsY_eq (HandSHeadRun.getT_eq s)
theorem run (w : World) : HandSHeadRun.RunEq R (PySem.W.view R.prog [39]) hk ob 20000 (("CallError" : Str) :: ("BadHand" : Str) :: ("BadPlan" : Str) :: ("BadWord" : Str) :: ("NoMeeting" : Str) :: ("BadLetter" : Str) :: ("BadText" : Str) :: ("HANDS" : Str) :: ("MOST_BEGIN" : Str) :: ("MOST_LONG" : Str) :: ("MOST_EVERY" : Str) :: ("MOST_MANY" : Str) :: ("is_between" : Str) :: ("is_plan" : Str) :: ("need_plan" : Str) :: ("MOST_GUESTS" : Str) :: ("need_hand" : Str) :: ("FIGURES" : Str) :: ("NONE" : Str) :: ("need_guests" : Str) :: ("written" : Str) :: ("number_of" : Str) :: ("guests_of" : Str) :: ("read" : Str) :: ("_law_dice" : Str) :: ("_law_off" : Str) :: ("_law_alike" : Str) :: ("_law_mixed" : Str) :: ("_law_refused" : Str) :: ("_law_plan" : Str) :: ("_law_number" : Str) :: ("_law_line" : Str) :: ("_law_changed" : Str) :: ("_law_is_right" : Str) :: ([] : List Str)) w := by
  intro os
  kernel_rfl
end K17
/-! ### data: tuples are values; what changes is an address -/
namespace Cc
open PySem PySem.Spec PyProof.Rows L2

inductive D where
  | non | bl (b : Bool) | int (i : Int) | str (x : Str) | ty (n : String) | ref (a : Addr) | tup (l : List D) | rol (l : List D) | wol (l : List D) | key (ks : List Key) | rod (kvs : List (Key × D)) | ptp (l : List D)

/-- what the top wrote, and the tables of code objects with their names -/
abbrev KT : Type := PySem.W.Frag × List (Addr × Str)
/-- a list that nobody changes: known, or written -/
def SqR (K : PySem.W.Frag) (H : Hp) (a : Addr) (xs : List V) : Prop :=
  (∃ o, H a = some (.frz o (.lst xs))) ∨ ∃ o its n, K.lookup a = some o ∧ o.cls = Value.type "list" ∧ o.dict = none ∧ o.data = Data.seq its n ∧ its.size ≤ sizeLine ∧ Vals xs its.toList
theorem SqR.sqL {K : PySem.W.Frag} {H : Hp} {a : Addr} {xs : List V} (h : SqR K H a xs) : SqL K H a xs := by
  rcases h with ⟨o, h⟩ | h
  · exact .inl (.inr ⟨o, h⟩)
  · exact .inr h

/-- a list that is locked -/
def SqF (H : Hp) (a : Addr) (xs : List V) : Prop := ∃ o, H a = some (.frz o (.lst xs))
theorem SqF.sqL {K : PySem.W.Frag} {H : Hp} {a : Addr} {xs : List V} (h : SqF H a xs) : SqL K H a xs := by
  obtain ⟨o, h⟩ := h
  exact .inl (.inr ⟨o, h⟩)
mutual
inductive Dv (K : KT) (H : Hp) : V → D → Prop
  | non : Dv K H .non .non
  | bl (b : Bool) : Dv K H (.bl b) (.bl b)
  | int (i : Int) : Dv K H (.int i) (.int i)
  | str (x : Str) : Dv K H (.str x) (.str x)
  | ty (n : String) : Dv K H (.ty n) (.ty n)
  | ref (a : Addr) : Dv K H (.ref a) (.ref a)
  | tup {a : Addr} {xs : List V} {l : List D} : SqT K.1 H a xs → DvL K H xs l → Dv K H (.ref a) (.tup l)
  | rol {a : Addr} {xs : List V} {l : List D} : SqF H a xs → DvL K H xs l → Dv K H (.ref a) (.rol l)
  | wol {a : Addr} {xs : List V} {l : List D} : SqR K.1 H a xs → DvL K H xs l → Dv K H (.ref a) (.wol l)
  | key {a : Addr} {ks : List Key} : H a = some (.tup (ks.map kV)) → Dv K H (.ref a) (.key ks)
  | rod {a : Addr} {ys : List (Key × V)} {kvs : List (Key × D)} : (∃ o, H a = some (.frz o (.dK ys))) → DvK K H ys kvs → Dv K H (.ref a) (.rod kvs)
  | ptp {a : Addr} {xs : List V} {l : List D} : (∃ o, H a = some (.frz o (.tup xs)) ∧ o.dict = none) → DvL K H xs l → Dv K H (.ref a) (.ptp l)
inductive DvL (K : KT) (H : Hp) : List V → List D → Prop
  | nil : DvL K H [] []
  | cons {v : V} {vs : List V} {d : D} {ds : List D} : Dv K H v d → DvL K H vs ds → DvL K H (v :: vs) (d :: ds)
inductive DvK (K : KT) (H : Hp) : List (Key × V) → List (Key × D) → Prop
  | nil : DvK K H [] []
  | cons {k : Key} {v : V} {vs : List (Key × V)} {d : D} {ds : List (Key × D)} : Dv K H v d → DvK K H vs ds → DvK K H ((k, v) :: vs) ((k, d) :: ds)
end

/-- what no step undoes -/
structure Up (H H' : Hp) : Prop where
  tups : ∀ a xs, H a = some (.tup xs) → H' a = some (.tup xs)
  frzs : ∀ a o u, H a = some (.frz o u) → H' a = some (.frz o u)
  code : ∀ a q, H a = some (LamX.CodeO a q) → H' a = some (LamX.CodeO a q)
/-- what values lean on -/
structure Up0 (H H' : Hp) : Prop where
  tups : ∀ a xs, H a = some (.tup xs) → H' a = some (.tup xs)
  frzL : ∀ a o u, H a = some (.frz o (.lst u)) → H' a = some (.frz o (.lst u))
  frzK : ∀ a o u, H a = some (.frz o (.dK u)) → H' a = some (.frz o (.dK u))
theorem Up.up0 {H H' : Hp} (u : Up H H') : Up0 H H' := ⟨u.tups, fun a o x h => u.frzs a o _ h, fun a o x h => u.frzs a o _ h⟩
theorem Up.refl (H : Hp) : Up H H := ⟨fun _ _ h => h, fun _ _ _ h => h, fun _ _ h => h⟩
theorem Up.trans {H H1 H2 : Hp} (a : Up H H1) (b : Up H1 H2) : Up H H2 :=
  ⟨fun c xs h => b.tups c xs (a.tups c xs h), fun c o u h => b.frzs c o u (a.frzs c o u h), fun c q h => b.code c q (a.code c q h)⟩
theorem Up.new {H : Hp} {p : Addr} {o : HO} (h : H p = none) : Up H (upd H p o) :=
  ⟨fun a _ e => by rw [upd_ne (ne_of_none e h)]; exact e, fun a _ _ e => by rw [upd_ne (ne_of_none e h)]; exact e, fun a _ e => by rw [upd_ne (ne_of_none e h)]; exact e⟩
/-- what a store may change -/
def Wr : HO → Prop
  | .lst _ => True
  | .dK _ => True
  | .dT _ => True
  | .ins _ _ _ => True
  | .set _ _ => True
  | .xd _ => True
  | _ => False
theorem Up.put {H : Hp} {p : Addr} {o0 o : HO} (h : H p = some o0) (w : Wr o0) : Up H (upd H p o) := by
  have ne : ∀ a u, H a = some u → ¬ Wr u → a ≠ p := fun a u e n z => by
    subst z
    rw [h] at e
    cases e
    exact n w
  exact ⟨fun a xs e => by rw [upd_ne (ne a _ e (fun z => z))]; exact e, fun a _ _ e => by rw [upd_ne (ne a _ e (fun z => z))]; exact e,
    fun a _ e => by rw [upd_ne (ne a _ e (fun z => z))]; exact e⟩
section
variable {K : KT} {H H' H'' : Hp} {G G' : Addr → Option HO}
theorem Up.sqT {F : PySem.W.Frag} (u : Up H H') {a : Addr} {xs : List V} (h : SqT F H a xs) : SqT F H' a xs := by
  rcases h with (h | ⟨o, h⟩) | h
  · exact .inl (.inl (u.tups _ _ h))
  · exact .inl (.inr ⟨o, u.frzs _ _ _ h⟩)
  · exact .inr h
theorem Up.sqR {F : PySem.W.Frag} (u : Up H H') {a : Addr} {xs : List V} (h : SqR F H a xs) : SqR F H' a xs := by
  rcases h with ⟨o, h⟩ | h
  · exact .inl ⟨o, u.frzs _ _ _ h⟩
  · exact .inr h
theorem Up.sqF (u : Up H H') {a : Addr} {xs : List V} (h : SqF H a xs) : SqF H' a xs := by
  obtain ⟨o, h⟩ := h
  exact ⟨o, u.frzs _ _ _ h⟩
theorem Up0.sqT {F : PySem.W.Frag} (u : Up0 H H') (hf : ∀ a o xs, H a = some (.frz o (.tup xs)) → H' a = some (.frz o (.tup xs))) {a : Addr} {xs : List V} (h : SqT F H a xs) : SqT F H' a xs := by
  rcases h with (h | ⟨o, h⟩) | h
  · exact .inl (.inl (u.tups _ _ h))
  · exact .inl (.inr ⟨o, hf _ _ _ h⟩)
  · exact .inr h
theorem Up0.sqR {F : PySem.W.Frag} (u : Up0 H H') {a : Addr} {xs : List V} (h : SqR F H a xs) : SqR F H' a xs := by
  rcases h with ⟨o, h⟩ | h
  · exact .inl ⟨o, u.frzL _ _ _ h⟩
  · exact .inr h
mutual
theorem Dv.up0 (u : Up0 H H') (hf : ∀ a o xs, H a = some (.frz o (.tup xs)) → H' a = some (.frz o (.tup xs))) : ∀ {v : V} {d : D}, Dv K H v d → Dv K H' v d
  | _, _, .non => .non
  | _, _, .bl b => .bl b
  | _, _, .int i => .int i
  | _, _, .str x => .str x
  | _, _, .ty n => .ty n
  | _, _, .ref a => .ref a
  | _, _, .tup h r => .tup (u.sqT hf h) (DvL.up0 u hf r)
  | _, _, .rol h r => .rol (by obtain ⟨o, h⟩ := h; exact ⟨o, u.frzL _ _ _ h⟩) (DvL.up0 u hf r)
  | _, _, .wol h r => .wol (u.sqR h) (DvL.up0 u hf r)
  | _, _, .key h => .key (u.tups _ _ h)
  | _, _, .rod h r => .rod (by obtain ⟨o, h⟩ := h; exact ⟨o, u.frzK _ _ _ h⟩) (DvK.up0 u hf r)
  | _, _, .ptp h r => .ptp (by obtain ⟨o, h, hd⟩ := h; exact ⟨o, hf _ _ _ h, hd⟩) (DvL.up0 u hf r)
theorem DvL.up0 (u : Up0 H H') (hf : ∀ a o xs, H a = some (.frz o (.tup xs)) → H' a = some (.frz o (.tup xs))) : ∀ {v : List V} {d : List D}, DvL K H v d → DvL K H' v d
  | _, _, .nil => .nil
  | _, _, .cons h r => .cons (Dv.up0 u hf h) (DvL.up0 u hf r)
theorem DvK.up0 (u : Up0 H H') (hf : ∀ a o xs, H a = some (.frz o (.tup xs)) → H' a = some (.frz o (.tup xs))) : ∀ {v : List (Key × V)} {d : List (Key × D)}, DvK K H v d → DvK K H' v d
  | _, _, .nil => .nil
  | _, _, .cons h r => .cons (Dv.up0 u hf h) (DvK.up0 u hf r)
end
theorem Dv.up (u : Up H H') {v : V} {d : D} (h : Dv K H v d) : Dv K H' v d := h.up0 u.up0 fun a o xs e => u.frzs a o _ e
theorem DvL.up (u : Up H H') {v : List V} {d : List D} (h : DvL K H v d) : DvL K H' v d := h.up0 u.up0 fun a o xs e => u.frzs a o _ e
theorem DvK.up (u : Up H H') {v : List (Key × V)} {d : List (Key × D)} (h : DvK K H v d) : DvK K H' v d := h.up0 u.up0 fun a o xs e => u.frzs a o _ e
/-- a key as a value -/
def kD : Key → D
  | .inl i => .int i
  | .inr x => .str x
theorem dv_kD (k : Key) : Dv K H (kV k) (kD k) := by
  cases k with
  | inl i => exact .int i
  | inr x => exact .str x
theorem dvL_kD : ∀ ks : List Key, DvL K H (ks.map kV) (ks.map kD)
  | [] => .nil
  | k :: ks => .cons (dv_kD k) (dvL_kD ks)
/-- a tuple's items -/
def D.tl : D → Option (List D)
  | .tup l => some l
  | .key ks => some (ks.map kD)
  | .ptp l => some l
  | _ => none
theorem Dv.sqT {v : V} {d : D} {l : List D} (h : Dv K H v d) (e : d.tl = some l) : ∃ a xs, v = .ref a ∧ SqT K.1 H a xs ∧ DvL K H xs l := by
  cases h with
  | tup q r => cases e; exact ⟨_, _, rfl, q, r⟩
  | key q => cases e; exact ⟨_, _, rfl, SqT.of q, dvL_kD _⟩
  | ptp q r => cases e; obtain ⟨o, q, _⟩ := q; exact ⟨_, _, rfl, .inl (.inr ⟨o, q⟩), r⟩
  | _ => cases e
theorem DvL.length : ∀ {v : List V} {d : List D}, DvL K H v d → v.length = d.length
  | _, _, .nil => rfl
  | _, _, .cons _ r => congrArg (· + 1) (DvL.length r)
theorem DvL.append : ∀ {v w : List V} {d e : List D}, DvL K H v d → DvL K H w e → DvL K H (v ++ w) (d ++ e)
  | _, _, _, _, .nil, s => s
  | _, _, _, _, .cons h r, s => .cons h (DvL.append r s)
theorem DvL.get : ∀ {v : List V} {d : List D} {i : Nat} {x : D}, DvL K H v d → d[i]? = some x → ∃ u, v[i]? = some u ∧ Dv K H u x
  | _, _, _, _, .nil, e => by simp at e
  | _, _, 0, _, .cons h _, e => by simp at e; subst e; exact ⟨_, rfl, h⟩
  | _, _, i + 1, _, .cons _ r, e => by
    obtain ⟨u, h1, h2⟩ := DvL.get (i := i) r (by simpa using e)
    exact ⟨u, by simpa using h1, h2⟩
theorem DvL.get' : ∀ {v : List V} {d : List D} {i : Nat} {u : V}, DvL K H v d → v[i]? = some u → ∃ x, d[i]? = some x ∧ Dv K H u x
  | _, _, _, _, .nil, e => by simp at e
  | _, _, 0, _, .cons h _, e => by simp at e; subst e; exact ⟨_, rfl, h⟩
  | _, _, i + 1, _, .cons _ r, e => by
    obtain ⟨u, h1, h2⟩ := DvL.get' (i := i) r (by simpa using e)
    exact ⟨u, by simpa using h1, h2⟩
theorem DvL.set {u : V} {x : D} (h : Dv K H u x) : ∀ {v : List V} {d : List D} (i : Nat), DvL K H v d → DvL K H (v.set i u) (d.set i x)
  | _, _, _, .nil => .nil
  | _, _, 0, .cons _ r => .cons h r
  | _, _, i + 1, .cons g r => .cons g (DvL.set h i r)
theorem DvL.eraseIdx : ∀ {v : List V} {d : List D} (i : Nat), DvL K H v d → DvL K H (v.eraseIdx i) (d.eraseIdx i)
  | _, _, _, .nil => .nil
  | _, _, 0, .cons _ r => r
  | _, _, i + 1, .cons g r => .cons g (DvL.eraseIdx i r)
theorem DvL.take : ∀ {v : List V} {d : List D} (n : Nat), DvL K H v d → DvL K H (v.take n) (d.take n)
  | _, _, 0, _ => .nil
  | _, _, _ + 1, .nil => .nil
  | _, _, n + 1, .cons r t => .cons r (DvL.take n t)
theorem DvL.drop : ∀ {v : List V} {d : List D} (n : Nat), DvL K H v d → DvL K H (v.drop n) (d.drop n)
  | _, _, 0, r => r
  | _, _, _ + 1, .nil => .nil
  | _, _, n + 1, .cons _ t => DvL.drop n t
theorem DvL.dropLast {v : List V} {d : List D} (h : DvL K H v d) : DvL K H v.dropLast d.dropLast := by
  rw [List.dropLast_eq_take, List.dropLast_eq_take, h.length]
  exact h.take _
end

/-! ### cells -/
inductive C where
  | lst (l : List D)
  | dK (kvs : List (Key × D)) | dT (kvs : List (List Key × D))
  | ins (cl : Addr) (fs : List (Str × D))
  | xd (fs : List (Str × D))
abbrev DH := Addr → Option C
def updD (G : DH) (a : Addr) (c : C) : DH := fun b => if b = a then some c else G b
theorem updD_same {G : DH} {a : Addr} {c : C} : updD G a c a = some c := by unfold updD; rw [if_pos rfl]
theorem updD_ne {G : DH} {a b : Addr} {c : C} (h : b ≠ a) : updD G a c b = G b := by unfold updD; rw [if_neg h]
theorem updD_updD {G : DH} {a : Addr} {c d : C} : updD (updD G a c) a d = updD G a d := by
  funext b; unfold updD; split <;> rfl
def Sub (G G' : DH) : Prop := ∀ a c, G a = some c → G' a = some c
theorem Sub.refl (G : DH) : Sub G G := fun _ _ h => h
theorem Sub.trans {G G1 G2 : DH} (a : Sub G G1) (b : Sub G1 G2) : Sub G G2 := fun x c h => b x c (a x c h)
theorem Sub.new {G : DH} {p : Addr} {c : C} (h : G p = none) : Sub G (updD G p c) := fun a u e => by
  rw [updD_ne (fun z => by subst z; rw [h] at e; cases e)]
  exact e
theorem neD {G : DH} {a b : Addr} {c : C} (h : G a = some c) (h' : G b = none) : a ≠ b := fun z => by
  subst z; rw [h] at h'; cases h'
theorem neDD {G : DH} {a b : Addr} {c d : C} (h : G a = some c) (h' : G b = some d) (n : c ≠ d) : a ≠ b := fun z => by
  subst z; rw [h] at h'; exact n (Option.some.inj h')
abbrev KVr (K : KT) (H : Hp) {κ : Type} : List (κ × V) → List (κ × D) → Prop := Paired fun p q => p.1 = q.1 ∧ Dv K H p.2 q.2
theorem DvK.kvr {K : KT} {H : Hp} : ∀ {ys : List (Key × V)} {kvs : List (Key × D)}, DvK K H ys kvs → KVr K H ys kvs
  | _, _, .nil => .nil
  | _, _, .cons h r => .cons ⟨rfl, h⟩ (DvK.kvr r)
theorem DvK.of {K : KT} {H : Hp} : ∀ {ys : List (Key × V)} {kvs : List (Key × D)}, KVr K H ys kvs → DvK K H ys kvs
  | _, _, .nil => .nil
  | (k, v) :: _, (j, d) :: _, .cons h r => by
    obtain ⟨e, h⟩ := h
    have e : k = j := e
    subst e
    exact .cons h (DvK.of r)
def CRel (K : KT) (H : Hp) (a : Addr) : C → Prop
  | .lst l => ∃ xs, H a = some (.lst xs) ∧ DvL K H xs l
  | .dK kvs => ∃ ys, H a = some (.dK ys) ∧ KVr K H ys kvs
  | .dT kvs => ∃ ys, H a = some (.dT ys) ∧ KVr K H ys kvs
  | .ins cl fs => ∃ dx ys, H a = some (.ins cl dx ys) ∧ KVr K H ys fs
  | .xd fs => ∃ ys, H a = some (.xd ys) ∧ KVr K H ys fs
structure HRel (K : KT) (G : DH) (H : Hp) : Prop where
  c : ∀ a c, G a = some c → CRel K H a c
  t : LamX.Tabs K.2 H
instance {K : KT} {G : DH} {H : Hp} : CoeFun (HRel K G H) (fun _ => ∀ a c, G a = some c → CRel K H a c) := ⟨HRel.c⟩
section
variable {K : KT} {H H' : Hp} {G G' : DH} {a p : Addr} {c : C} {o o0 : HO}
theorem KVr.up {κ : Type} (u : Up H H') {xs : List (κ × V)} {ys : List (κ × D)} (h : KVr K H xs ys) : KVr K H' xs ys :=
  Paired.mapP h fun _ _ q => ⟨q.1, q.2.up u⟩
theorem CRel.some (h : CRel K H a c) : ∃ o, H a = some o := by
  cases c with
  | lst l => obtain ⟨xs, e, _⟩ := h; exact ⟨_, e⟩
  | dK l => obtain ⟨xs, e, _⟩ := h; exact ⟨_, e⟩
  | dT l => obtain ⟨xs, e, _⟩ := h; exact ⟨_, e⟩
  | ins cl fs => obtain ⟨dx, xs, e, _⟩ := h; exact ⟨_, e⟩
  | xd l => obtain ⟨xs, e, _⟩ := h; exact ⟨_, e⟩
theorem CRel.stay (u : Up H H') (e : H' a = H a) (h : CRel K H a c) : CRel K H' a c := by
  cases c with
  | lst l => obtain ⟨xs, q, r⟩ := h; exact ⟨xs, e.trans q, r.up u⟩
  | dK l => obtain ⟨xs, q, r⟩ := h; exact ⟨xs, e.trans q, r.up u⟩
  | dT l => obtain ⟨xs, q, r⟩ := h; exact ⟨xs, e.trans q, r.up u⟩
  | ins cl fs => obtain ⟨dx, xs, q, r⟩ := h; exact ⟨dx, xs, e.trans q, r.up u⟩
  | xd l => obtain ⟨xs, q, r⟩ := h; exact ⟨xs, e.trans q, r.up u⟩
theorem tabs_new (h : LamX.Tabs K.2 H) (e : H p = Option.none) : LamX.Tabs K.2 (upd H p o) := h.ext fun b u z => by
  rw [upd_ne (ne_of_none z e)]; exact z
theorem tabs_put (h : LamX.Tabs K.2 H) (e : H p = some o0) (w : Wr o0) : LamX.Tabs K.2 (upd H p o) := fun x hx => by
  obtain ⟨ps, h1, h2, h3⟩ := h x hx
  have u : Up H (upd H p o) := Up.put e w
  refine ⟨ps, ?_, h2, fun pos cv z => ?_⟩
  · rw [upd_ne (fun z => by subst z; rw [h1] at e; cases e; exact w)]; exact h1
  · obtain ⟨c0, e1, e2⟩ := h3 pos cv z
    exact ⟨c0, e1, u.code _ _ e2⟩
theorem HRel.none (h : HRel K G H) (e : H p = Option.none) : G p = Option.none := by
  cases q : G p with
  | none => rfl
  | some c =>
    obtain ⟨o, z⟩ := (h p c q).some
    rw [e] at z; cases z
theorem HRel.new0 (h : HRel K G H) (e : H p = Option.none) : HRel K G (upd H p o) := ⟨fun a c q => by
  obtain ⟨u, z⟩ := (h a c q).some
  exact (h a c q).stay (Up.new e) (upd_ne (ne_of_none z e)), tabs_new h.t e⟩
theorem HRel.new (h : HRel K G H) (e : H p = Option.none) (r : CRel K (upd H p o) p c) : HRel K (updD G p c) (upd H p o) := ⟨fun a c' q => by
  by_cases hb : a = p
  · subst hb; rw [updD_same] at q; cases q; exact r
  · rw [updD_ne hb] at q
    exact (h a c' q).stay (Up.new e) (upd_ne hb), tabs_new h.t e⟩
theorem HRel.put (h : HRel K G H) (e : H p = some o0) (w : Wr o0) (r : CRel K (upd H p o) p c) : HRel K (updD G p c) (upd H p o) := ⟨fun a c' q => by
  by_cases hb : a = p
  · subst hb; rw [updD_same] at q; cases q; exact r
  · rw [updD_ne hb] at q
    exact (h a c' q).stay (Up.put e w) (upd_ne hb), tabs_put h.t e w⟩
theorem HRel.sub (h : HRel K G H) (s : Sub G' G) : HRel K G' H := ⟨fun a c q => h a c (s a c q), h.t⟩
end

/-! ### the lift -/
abbrev DS := List (Option D)
abbrev DK := D → DH → Prop
abbrev DX := Value → Option Addr → DH → Prop
abbrev DE := DS → DH → DK → DX → Prop
abbrev DT := DS → DH → (Bool → DH → Prop) → DX → Prop
abbrev DA := DS → DH → (List D → DH → Prop) → DX → Prop
structure DEnds where
  nx : DS → DH → Prop
  rt : DK
  bk : DS → DH → Prop := fun _ _ => False
  ct : DS → DH → Prop := fun _ _ => False
  ex : DX := fun _ _ _ => False
abbrev DSt := DEnds → DS → DH → Prop
abbrev SpD := List D → DH → DK → DX → Prop
abbrev D2 := D → D → DH → DK → Prop

def SRel (K : KT) (H : Hp) (σ : L2.St) (δ : DS) : Prop := σ.length = δ.length ∧ ∀ (i : Nat) (d : D), δ[i]? = some (some d) → ∃ v, σ[i]? = some (some v) ∧ Dv K H v d
def CloX (K : KT) (H : Hp) (E : XK) (EX : DX) : Prop := ∀ c o H' G', Up H H' → HRel K G' H' → EX c o G' → E c o H'
def CloR (K : KT) (H : Hp) (Q : VK) (R : DK) : Prop := ∀ v H' d G', Up H H' → HRel K G' H' → Dv K H' v d → R d G' → Q v H'
def CloB (K : KT) (H : Hp) (Q : Bool → Hp → Prop) (R : Bool → DH → Prop) : Prop := ∀ b H' G', Up H H' → HRel K G' H' → R b G' → Q b H'
def CloA (K : KT) (H : Hp) (Q : List V → Hp → Prop) (R : List D → DH → Prop) : Prop := ∀ v H' d G', Up H H' → HRel K G' H' → DvL K H' v d → R d G' → Q v H'
def CloS (K : KT) (H : Hp) (Q : L2.St → Hp → Prop) (R : DS → DH → Prop) : Prop := ∀ σ' H' δ' G', Up H H' → SRel K H' σ' δ' → HRel K G' H' → R δ' G' → Q σ' H'
def up (K : KT) (E : XK) (de : DE) : TE := fun σ H Q => ∃ δ G R EX, SRel K H σ δ ∧ HRel K G H ∧ de δ G R EX ∧ CloR K H Q R ∧ CloX K H E EX
def upT (K : KT) (E : XK) (de : DT) : TT := fun σ H Q => ∃ δ G R EX, SRel K H σ δ ∧ HRel K G H ∧ de δ G R EX ∧ CloB K H Q R ∧ CloX K H E EX
def upA (K : KT) (E : XK) (de : DA) : TA := fun σ H Q => ∃ δ G R EX, SRel K H σ δ ∧ HRel K G H ∧ de δ G R EX ∧ CloA K H Q R ∧ CloX K H E EX
def upS (K : KT) (E : XK) (ds : DSt) : TS := fun Dn σ H => ∃ δ G DD, SRel K H σ δ ∧ HRel K G H ∧ ds DD δ G ∧ CloS K H Dn.nx DD.nx ∧ CloR K H Dn.rt DD.rt ∧ CloS K H Dn.bk DD.bk ∧ CloS K H Dn.ct DD.ct ∧ CloX K H E DD.ex
def upF (K : KT) (sd : SpD) : Sp := fun vs H Q E => ∃ ds G R EX, DvL K H vs ds ∧ HRel K G H ∧ sd ds G R EX ∧ CloR K H Q R ∧ CloX K H E EX
section
variable {K : KT} {H H' : Hp} {σ : L2.St} {δ : DS}
theorem SRel.up (u : Up H H') (h : SRel K H σ δ) : SRel K H' σ δ := ⟨h.1, fun i d e => by
  obtain ⟨v, a, b⟩ := h.2 i d e
  exact ⟨v, a, b.up u⟩⟩
theorem SRel.set {i : Nat} {v : V} {d : D} (h : SRel K H σ δ) (r : Dv K H v d) : SRel K H (σ.set i (some v)) (δ.set i (some d)) := by
  refine ⟨by rw [List.length_set, List.length_set]; exact h.1, fun j e q => ?_⟩
  by_cases hb : i = j
  · subst hb
    by_cases hl : i < δ.length
    · rw [List.getElem?_set_self hl] at q
      cases q
      exact ⟨v, List.getElem?_set_self (by rw [h.1]; exact hl), r⟩
    · rw [List.getElem?_eq_none (by rw [List.length_set]; omega)] at q
      cases q
  · rw [List.getElem?_set_ne hb] at q ⊢
    exact h.2 j e q
theorem CloX.up {E : XK} {EX : DX} (u : Up H H') (h : CloX K H E EX) : CloX K H' E EX := fun c o H2 G2 u2 r q => h c o H2 G2 (u.trans u2) r q
theorem CloR.up {Q : VK} {R : DK} (u : Up H H') (h : CloR K H Q R) : CloR K H' Q R := fun v H2 d G2 u2 r q x => h v H2 d G2 (u.trans u2) r q x
theorem CloB.up {Q : Bool → Hp → Prop} {R : Bool → DH → Prop} (u : Up H H') (h : CloB K H Q R) : CloB K H' Q R := fun v H2 G2 u2 r x => h v H2 G2 (u.trans u2) r x
theorem CloA.up {Q : List V → Hp → Prop} {R : List D → DH → Prop} (u : Up H H') (h : CloA K H Q R) : CloA K H' Q R := fun v H2 d G2 u2 r q x => h v H2 d G2 (u.trans u2) r q x
theorem CloS.up {Q : L2.St → Hp → Prop} {R : DS → DH → Prop} (u : Up H H') (h : CloS K H Q R) : CloS K H' Q R := fun s H2 d G2 u2 r q x => h s H2 d G2 (u.trans u2) r q x
end
/-- the wish of an error, the tables -/
abbrev EK : Type := XK × List (Addr × Str)
abbrev kt (X : Cx) (E : EK) : KT := (X.K, E.2)
structure PD (X : Cx) (E : EK) (e : Expr) (de : DE) : Prop where
  pe : PE X e (up (kt X E) E.1 de)
structure PDT (X : Cx) (E : EK) (e : Expr) (de : DT) : Prop where
  pt : PT X e (upT (kt X E) E.1 de)
structure PDW (X : Cx) (E : EK) (e : Expr) (de : DT) : Prop where
  pw : PW X e (upT (kt X E) E.1 de)
structure PDA (X : Cx) (E : EK) (e : List Expr) (de : DA) : Prop where
  pa : PA X e (upA (kt X E) E.1 de)
structure PDS (X : Cx) (E : EK) (st : Stmt) (ds : DSt) : Prop where
  ps : PS X st (upS (kt X E) E.1 ds)
structure PDSs (X : Cx) (E : EK) (st : List Stmt) (ds : DSt) : Prop where
  ps : PSs X st (upS (kt X E) E.1 ds)
theorem imE {X : Cx} {e : Expr} {t u : TE} (h : PE X e t) (k : ∀ σ H Q, u σ H Q → t σ H Q) : PE X e u := ⟨fun pins s σ H Q I q => h.run pins s σ H Q I (k σ H Q q)⟩
theorem imT {X : Cx} {e : Expr} {t u : TT} (h : PT X e t) (k : ∀ σ H Q, u σ H Q → t σ H Q) : PT X e u := ⟨fun pins s σ H Q I q => h.run pins s σ H Q I (k σ H Q q)⟩
theorem imW {X : Cx} {e : Expr} {t u : TT} (h : PW X e t) (k : ∀ σ H Q, u σ H Q → t σ H Q) : PW X e u := ⟨fun w pins s σ H Q I q => h.run w pins s σ H Q I (k σ H Q q)⟩
theorem imA {X : Cx} {e : List Expr} {t u : TA} (h : PA X e t) (k : ∀ σ H Q, u σ H Q → t σ H Q) : PA X e u := ⟨fun w pins s σ H Q I q => h.run w pins s σ H Q I (k σ H Q q)⟩
theorem imS {X : Cx} {e : Stmt} {t u : TS} (h : PS X e t) (k : ∀ D σ H, u D σ H → t D σ H) : PS X e u := ⟨fun pins s σ H Q I q => h.run pins s σ H Q I (k Q σ H q)⟩
theorem imSs {X : Cx} {e : List Stmt} {t u : TS} (h : PSs X e t) (k : ∀ D σ H, u D σ H → t D σ H) : PSs X e u := ⟨fun pins s σ H Q I q => h.run pins s σ H Q I (k Q σ H q)⟩
end Cc
/-! ### the rules: expressions, tests, statements -/
namespace Cc
open PySem PySem.Spec PyProof.Rows L2
section
variable {X : Cx} {E : EK} {a b c e : Expr} {es rest : List Expr} {pos : Pos} {da db dc de : DE} {dA dB : DT} {dl : DA}
/-! names, constants -/
def dVar (i : Nat) : DE := fun δ G R _ => match δ[i]? with
  | some (some d) => R d G
  | _ => False
def dC (d : D) : DE := fun _ G R _ => R d G
theorem pd_var (i : Nat) {x : Str} (h : PE X (.Name x pos) (tVar i)) : PD X E (.Name x pos) (dVar i) := ⟨imE h fun σ H Q ⟨δ, G, R, EX, sr, hr, h, cr, cx⟩ => by
  unfold dVar at h
  split at h
  · rename_i d e
    obtain ⟨v, e1, r⟩ := sr.2 _ _ e
    exact ⟨v, e1, cr v H d G (Up.refl H) hr r h⟩
  · exact h.elim⟩
theorem pd_c {v : V} {d : D} (h : PE X e (tC v)) (hd : ∀ H, Dv (kt X E) H v d) : PD X E e (dC d) := ⟨imE h fun σ H Q ⟨δ, G, R, EX, sr, hr, h, cr, cx⟩ => cr v H d G (Up.refl H) hr (hd H) h⟩
theorem pd_int {i : Int} {j} : PD X E (.Constant (.int i) j pos) (dC (.int i)) := pd_c pe_int fun _ => .int i
theorem pd_bl {i : Bool} {j} : PD X E (.Constant (.bool i) j pos) (dC (.bl i)) := pd_c pe_bl fun _ => .bl i
theorem pd_str {i : Str} {j} : PD X E (.Constant (.str i) j pos) (dC (.str i)) := pd_c pe_str fun _ => .str i
theorem pd_non {j} : PD X E (.Constant .none j pos) (dC .non) := pd_c pe_non fun _ => .non
/-- a name of the module -/
def GloC (K : PySem.W.Frag) (mg : Str → Option Value) (x : Str) (d : D) : Prop := ∃ v u, mg x = some u ∧ RelV v u ∧ ∀ T H, Dv (K, T) H v d
theorem pd_glob {x : Str} {d : D} (hg : Gl X x) (hm : GloC X.K X.mg x d) (hd : (x == ("__debug__" : Str)) = false := by decide) : PD X E (.Name x pos) (dC d) := by
  obtain ⟨v, u, h1, h2, h3⟩ := hm
  exact pd_c (pe_glob hg h1 h2 hd) (h3 E.2)
/-! operators -/
def Lift2 (K : KT) (r : R2) (r2 : D2) : Prop := ∀ x y H d e G R Q, HRel K G H → Dv K H x d → Dv K H y e → r2 d e G R → CloR K H Q R → r x y H Q
def dOp (r : D2) (da db : DE) : DE := fun δ G R EX => da δ G (fun x G1 => db δ G1 (fun y G2 => r x y G2 R) EX) EX
theorem up_op {r : R2} {r2 : D2} (l : ∀ T, Lift2 (X.K, T) r r2) {σ : L2.St} {H : Hp} {Q : VK} : up (kt X E) E.1 (dOp r2 da db) σ H Q → tOp r (up (kt X E) E.1 da) (up (kt X E) E.1 db) σ H Q := fun ⟨δ, G, R, EX, sr, hr, h, cr, cx⟩ =>
  ⟨δ, G, _, EX, sr, hr, h, fun x H1 d G1 u1 h1 r1 q1 => ⟨δ, G1, _, EX, sr.up u1, h1, q1, fun y H2 e G2 u2 h2 r2 q2 => l _ x y H2 d e G2 R Q h2 (r1.up u2) r2 q2 (cr.up (u1.trans u2)), cx.up u1⟩, cx⟩
theorem pd_op {op : Operator} {r : R2} {r2 : D2} (ho : OpR X (binaryOp op) r) (l : ∀ T, Lift2 (X.K, T) r r2) (ha : PD X E a da) (hb : PD X E b db) : PD X E (.BinOp a op b pos) (dOp r2 da db) :=
  ⟨imE (pe_op ho ha.pe hb.pe) fun _ _ _ => up_op l⟩
theorem pd_cmp {op : CmpOp} {r : R2} {r2 : D2} (ho : OpR X (compareOp op) r) (l : ∀ T, Lift2 (X.K, T) r r2) (ha : PD X E a da) (hb : PD X E b db) (hm : behindInMarks op b = false) : PD X E (.Compare a [op] [b] pos) (dOp r2 da db) :=
  ⟨imE (pe_cmpR ho ha.pe hb.pe hm) fun _ _ _ => up_op l⟩
theorem pd_ix {r : R2} {r2 : D2} (hr : IxR X r) (l : ∀ T, Lift2 (X.K, T) r r2) (ha : PD X E a da) (hb : PD X E b db) (hs : PlainIx b) : PD X E (.Subscript a b pos) (dOp r2 da db) :=
  ⟨imE (pe_ix hr ha.pe hb.pe hs) fun _ _ _ => up_op l⟩
abbrev D1 := D → DH → DK → Prop
def Lift1 (K : KT) (r : V → Hp → VK → Prop) (r2 : D1) : Prop := ∀ x H d G R Q, HRel K G H → Dv K H x d → r2 d G R → CloR K H Q R → r x H Q
def dUn (r : D1) (da : DE) : DE := fun δ G R EX => da δ G (fun x G1 => r x G1 R) EX
theorem pd_un {op : UnaryOp} {r : V → Hp → VK → Prop} {r2 : D1} (ho : UnR X (unaryOp op) r) (l : ∀ T, Lift1 (X.K, T) r r2) (ha : PD X E a da) : PD X E (.UnaryOp op a pos) (dUn r2 da) :=
  ⟨imE (pe_un ho ha.pe) fun σ H Q ⟨δ, G, R, EX, sr, hr, h, cr, cx⟩ => ⟨δ, G, _, EX, sr, hr, h, fun x H1 d G1 u1 h1 r1 q1 => l _ x H1 d G1 R Q h1 r1 q1 (cr.up u1), cx⟩⟩
/-- a test from a truth value -/
def blD (R : Bool → DH → Prop) : DK := fun x G => match x with
  | .bl c => R c G
  | _ => False
theorem CloB.bl {H : Hp} {Q : Bool → Hp → Prop} {R : Bool → DH → Prop} (cr : CloB (kt X E) H Q R) : CloR (kt X E) H (fun x H' => ∃ c, x = .bl c ∧ Q c H') (blD R) := fun x H1 d G1 u1 h1 r1 q1 => by
  cases r1 with
  | bl c => exact ⟨c, rfl, cr c H1 G1 u1 h1 q1⟩
  | _ => exact False.elim q1
def dTest (da : DE) : DT := fun δ G R EX => da δ G (blD R) EX
theorem up_test {σ : L2.St} {H : Hp} {Q : Bool → Hp → Prop} : upT (kt X E) E.1 (dTest da) σ H Q → tTest (up (kt X E) E.1 da) σ H Q := fun ⟨δ, G, R, EX, sr, hr, h, cr, cx⟩ =>
  ⟨δ, G, _, EX, sr, hr, h, cr.bl, cx⟩
theorem pdt_cmp {op : CmpOp} {r : R2} {r2 : D2} (ho : OpR X (compareOp op) r) (l : ∀ T, Lift2 (X.K, T) r r2) (ha : PD X E a da) (hb : PD X E b db) (hm : behindInMarks op b = false) : PDT X E (.Compare a [op] [b] pos) (dTest (dOp r2 da db)) :=
  ⟨imT (pt_cmpR ho ha.pe hb.pe hm) fun σ H Q h => by
    obtain ⟨δ, G, R, EX, sr, hr, h, cr, cx⟩ := h
    exact up_op l ⟨δ, G, _, EX, sr, hr, h, cr.bl, cx⟩⟩
theorem pdt_val (h : PD X E e de) (he : ∀ whole, isTrue e X.env whole = (do let v ← whole; standAt e.pos; holding [v] (truthy v)) := by intro _; rfl) : PDT X E e (dTest de) :=
  ⟨imT (pt_val h.pe he) fun _ _ _ => up_test⟩
/-- a op b op' c -/
def dChain (r r' : D2) (da db dc : DE) : DE := fun δ G R EX => da δ G (fun x G1 => db δ G1 (fun y G2 => r x y G2 (blD fun k G3 => if k = true then dc δ G3 (fun u G4 => r' y u G4 R) EX else R (.bl false) G3)) EX) EX
theorem up_chain {r s : R2} {r2 s2 : D2} (l : ∀ T, Lift2 (X.K, T) r r2) (m : ∀ T, Lift2 (X.K, T) s s2) {σ : L2.St} {H : Hp} {Q : VK} : up (kt X E) E.1 (dChain r2 s2 da db dc) σ H Q → tChain r s (up (kt X E) E.1 da) (up (kt X E) E.1 db) (up (kt X E) E.1 dc) σ H Q := fun ⟨δ, G, R, EX, sr, hr, h, cr, cx⟩ =>
  ⟨δ, G, _, EX, sr, hr, h, fun x H1 d G1 u1 h1 r1 q1 => ⟨δ, G1, _, EX, sr.up u1, h1, q1, fun y H2 e G2 u2 h2 r2 q2 => l _ x y H2 d e G2 _ _ h2 (r1.up u2) r2 q2 fun z H3 f G3 u3 h3 r3 q3 => by
    cases r3 with
    | bl k =>
      refine ⟨k, rfl, ?_⟩
      have q3 : if k = true then dc δ G3 (fun u G4 => s2 e u G4 R) EX else R (.bl false) G3 := q3
      cases k with
      | true =>
        rw [if_pos rfl] at q3 ⊢
        exact ⟨δ, G3, _, EX, sr.up (u1.trans (u2.trans u3)), h3, q3, fun w H4 g G4 u4 h4 r4 q4 => m _ y w H4 e g G4 R Q h4 ((r2.up u3).up u4) r4 q4 (cr.up (u1.trans (u2.trans (u3.trans u4)))), cx.up (u1.trans (u2.trans u3))⟩
      | false =>
        rw [if_neg Bool.false_ne_true] at q3 ⊢
        exact cr (.bl false) H3 _ G3 (u1.trans (u2.trans u3)) h3 (.bl false) q3
    | _ => exact False.elim q3, cx.up u1⟩, cx⟩
theorem pd_chain {op op' : CmpOp} {r s : R2} {r2 s2 : D2} (ho : OpR X (compareOp op) r) (l : ∀ T, Lift2 (X.K, T) r r2) (ho' : OpR X (compareOp op') s) (m : ∀ T, Lift2 (X.K, T) s s2) (ha : PD X E a da) (hb : PD X E b db) (hc : PD X E c dc)
    (hm : lastMarks [op, op'] [b, c] = false := by with_unfolding_all rfl) : PD X E (.Compare a [op, op'] [b, c] pos) (dChain r2 s2 da db dc) := ⟨imE (pe_chain ho ho' ha.pe hb.pe hc.pe hm) fun _ _ _ => up_chain l m⟩
theorem pdt_chain {op op' : CmpOp} {r s : R2} {r2 s2 : D2} (ho : OpR X (compareOp op) r) (l : ∀ T, Lift2 (X.K, T) r r2) (ho' : OpR X (compareOp op') s) (m : ∀ T, Lift2 (X.K, T) s s2) (ha : PD X E a da) (hb : PD X E b db) (hc : PD X E c dc)
    (hm : lastMarks [op, op'] [b, c] = false := by with_unfolding_all rfl) : PDT X E (.Compare a [op, op'] [b, c] pos) (dTest (dChain r2 s2 da db dc)) := ⟨imT (pt_chain ho ho' ha.pe hb.pe hc.pe hm) fun σ H Q ⟨δ, G, R, EX, sr, hr, h, cr, cx⟩ => up_chain l m ⟨δ, G, _, EX, sr, hr, h, cr.bl, cx⟩⟩
/-! and, or, not -/
def dAnd (t u : DT) : DT := fun δ G R EX => t δ G (fun c G1 => if c = true then u δ G1 R EX else R false G1) EX
def dOr (t u : DT) : DT := fun δ G R EX => t δ G (fun c G1 => if c = true then R true G1 else u δ G1 R EX) EX
def dNot (t : DT) : DT := fun δ G R EX => t δ G (fun c G1 => R (!c) G1) EX
theorem pdw_and1 (ha : PDT X E a dA) : PDW X E (.BoolOp .And [a] pos) dA := ⟨pw_and1 ha.pt⟩
theorem pdw_or1 (ha : PDT X E a dA) : PDW X E (.BoolOp .Or [a] pos) dA := ⟨pw_or1 ha.pt⟩
theorem pdw_and (ha : PDT X E a dA) (hb : PDW X E (.BoolOp .And (b :: rest) pos) dB) : PDW X E (.BoolOp .And (a :: b :: rest) pos) (dAnd dA dB) :=
  ⟨imW (pw_and ha.pt hb.pw) fun σ H Q ⟨δ, G, R, EX, sr, hr, h, cr, cx⟩ => ⟨δ, G, _, EX, sr, hr, h, fun c H1 G1 u1 h1 q1 => by
    cases c with
    | true => rw [if_pos rfl] at q1 ⊢; exact ⟨δ, G1, R, EX, sr.up u1, h1, q1, cr.up u1, cx.up u1⟩
    | false => rw [if_neg Bool.false_ne_true] at q1 ⊢; exact cr _ _ _ u1 h1 q1, cx⟩⟩
theorem pdw_or (ha : PDT X E a dA) (hb : PDW X E (.BoolOp .Or (b :: rest) pos) dB) : PDW X E (.BoolOp .Or (a :: b :: rest) pos) (dOr dA dB) :=
  ⟨imW (pw_or ha.pt hb.pw) fun σ H Q ⟨δ, G, R, EX, sr, hr, h, cr, cx⟩ => ⟨δ, G, _, EX, sr, hr, h, fun c H1 G1 u1 h1 q1 => by
    cases c with
    | true => rw [if_pos rfl] at q1 ⊢; exact cr _ _ _ u1 h1 q1
    | false => rw [if_neg Bool.false_ne_true] at q1 ⊢; exact ⟨δ, G1, R, EX, sr.up u1, h1, q1, cr.up u1, cx.up u1⟩, cx⟩⟩
theorem pdt_not (ha : PDT X E a dA) : PDT X E (.UnaryOp .Not a pos) (dNot dA) :=
  ⟨imT (pt_not ha.pt) fun σ H Q ⟨δ, G, R, EX, sr, hr, h, cr, cx⟩ => ⟨δ, G, _, EX, sr, hr, h, fun c H1 G1 u1 h1 q1 => cr _ _ _ u1 h1 q1, cx⟩⟩
theorem PDW.pdt (h : PDW X E a dA) : PDT X E a dA := ⟨h.pw.pt⟩
def dAndV (da db : DE) : DE := fun δ G R EX => da δ G (blD fun c G1 => if c = true then db δ G1 R EX else R (.bl false) G1) EX
def dOrV (da db : DE) : DE := fun δ G R EX => da δ G (blD fun c G1 => if c = true then R (.bl true) G1 else db δ G1 R EX) EX
def dNotV (da : DE) : DE := fun δ G R EX => da δ G (blD fun c G1 => R (.bl (!c)) G1) EX
theorem pd_one {op} (h : PD X E a da) : PD X E (.BoolOp op [a] pos) da := ⟨pe_one h.pe⟩
theorem pd_and (ha : PD X E a da) (hb : PD X E (.BoolOp .And (b :: rest) pos) db) : PD X E (.BoolOp .And (a :: b :: rest) pos) (dAndV da db) :=
  ⟨imE (pe_and ha.pe hb.pe) fun σ H Q ⟨δ, G, R, EX, sr, hr, h, cr, cx⟩ => ⟨δ, G, _, EX, sr, hr, h, fun x H1 d G1 u1 h1 r1 q1 => by
    cases r1 with
    | bl c =>
      refine ⟨c, rfl, ?_⟩
      have q1 : if c = true then db δ G1 R EX else R (.bl false) G1 := q1
      cases c with
      | true => rw [if_pos rfl] at q1 ⊢; exact ⟨δ, G1, R, EX, sr.up u1, h1, q1, cr.up u1, cx.up u1⟩
      | false => rw [if_neg Bool.false_ne_true] at q1 ⊢; exact cr _ _ _ _ u1 h1 (.bl false) q1
    | _ => exact False.elim q1, cx⟩⟩
theorem pd_or (ha : PD X E a da) (hb : PD X E (.BoolOp .Or (b :: rest) pos) db) : PD X E (.BoolOp .Or (a :: b :: rest) pos) (dOrV da db) :=
  ⟨imE (pe_or ha.pe hb.pe) fun σ H Q ⟨δ, G, R, EX, sr, hr, h, cr, cx⟩ => ⟨δ, G, _, EX, sr, hr, h, fun x H1 d G1 u1 h1 r1 q1 => by
    cases r1 with
    | bl c =>
      refine ⟨c, rfl, ?_⟩
      have q1 : if c = true then R (.bl true) G1 else db δ G1 R EX := q1
      cases c with
      | true => rw [if_pos rfl] at q1 ⊢; exact cr _ _ _ _ u1 h1 (.bl true) q1
      | false => rw [if_neg Bool.false_ne_true] at q1 ⊢; exact ⟨δ, G1, R, EX, sr.up u1, h1, q1, cr.up u1, cx.up u1⟩
    | _ => exact False.elim q1, cx⟩⟩
theorem pd_not (ha : PD X E a da) : PD X E (.UnaryOp .Not a pos) (dNotV da) :=
  ⟨imE (pe_not ha.pe) fun σ H Q ⟨δ, G, R, EX, sr, hr, h, cr, cx⟩ => ⟨δ, G, _, EX, sr, hr, h, fun x H1 d G1 u1 h1 r1 q1 => by
    cases r1 with
    | bl c => exact ⟨c, rfl, cr _ _ _ _ u1 h1 (.bl _) q1⟩
    | _ => exact False.elim q1, cx⟩⟩
def dIf (t : DT) (da db : DE) : DE := fun δ G R EX => t δ G (fun c G1 => if c = true then da δ G1 R EX else db δ G1 R EX) EX
theorem pd_if (hc : PDT X E c dA) (ha : PD X E a da) (hb : PD X E b db) : PD X E (.IfExp c a b pos) (dIf dA da db) :=
  ⟨imE (pe_ifExp hc.pt ha.pe hb.pe) fun σ H Q ⟨δ, G, R, EX, sr, hr, h, cr, cx⟩ => ⟨δ, G, _, EX, sr, hr, h, fun c H1 G1 u1 h1 q1 => by
    cases c with
    | true => rw [if_pos rfl] at q1 ⊢; exact ⟨δ, G1, R, EX, sr.up u1, h1, q1, cr.up u1, cx.up u1⟩
    | false => rw [if_neg Bool.false_ne_true] at q1 ⊢; exact ⟨δ, G1, R, EX, sr.up u1, h1, q1, cr.up u1, cx.up u1⟩, cx⟩⟩
/-! arguments, displays -/
def dNil : DA := fun _ G R _ => R [] G
def dCons (da : DE) (dl : DA) : DA := fun δ G R EX => da δ G (fun x G1 => dl δ G1 (fun xs G2 => R (x :: xs) G2) EX) EX
theorem pda_nil : PDA X E [] dNil := ⟨imA pa_nil fun σ H Q ⟨δ, G, R, EX, sr, hr, h, cr, cx⟩ => cr _ _ _ _ (Up.refl H) hr .nil h⟩
theorem pda_cons (ha : PD X E e da) (hr : PDA X E es dl) (hs : starEach (e :: es) X.env = (false, eval e X.env) :: starEach es X.env := by rfl) : PDA X E (e :: es) (dCons da dl) :=
  ⟨imA (pa_cons ha.pe hr.pa hs) fun σ H Q ⟨δ, G, R, EX, sr, hr, h, cr, cx⟩ => ⟨δ, G, _, EX, sr, hr, h, fun x H1 d G1 u1 h1 r1 q1 => ⟨δ, G1, _, EX, sr.up u1, h1, q1, fun ys H2 es G2 u2 h2 r2 q2 => cr _ _ _ _ (u1.trans u2) h2 (.cons (r1.up u2) r2) q2, cx.up u1⟩, cx⟩⟩
def dTup (dl : DA) : DE := fun δ G R EX => dl δ G (fun xs G1 => xs.length ≤ sizeLine ∧ R (.tup xs) G1) EX
def dLst (dl : DA) : DE := fun δ G R EX => dl δ G (fun xs G1 => xs.length ≤ sizeLine ∧ ∀ p, G1 p = none → R (.ref p) (updD G1 p (.lst xs))) EX
theorem pd_tup {x1} (h : PDA X E es dl) : PD X E (.Tuple es x1 pos) (dTup dl) :=
  ⟨imE (pe_tup h.pa) fun σ H Q ⟨δ, G, R, EX, sr, hr, h, cr, cx⟩ => ⟨δ, G, _, EX, sr, hr, h, fun xs H1 l G1 u1 h1 r1 ⟨z, q1⟩ => ⟨by rw [r1.length]; exact z, fun p hp =>
    cr _ _ _ _ (u1.trans (Up.new hp)) (h1.new0 hp) (.tup (SqT.of upd_same) (r1.up (Up.new hp))) q1⟩, cx⟩⟩
theorem pd_lst (h : PDA X E es dl) : PD X E (.List es pos) (dLst dl) :=
  ⟨imE (pe_lst h.pa) fun σ H Q ⟨δ, G, R, EX, sr, hr, h, cr, cx⟩ => ⟨δ, G, _, EX, sr, hr, h, fun xs H1 l G1 u1 h1 r1 ⟨z, q1⟩ => ⟨by rw [r1.length]; exact z, fun p hp =>
    cr _ _ _ _ (u1.trans (Up.new hp)) (h1.new (c := .lst l) hp ⟨xs, upd_same, r1.up (Up.new hp)⟩) (.ref p) (q1 p (h1.none hp))⟩, cx⟩⟩
/-! calls -/
abbrev DC := List D → DH → DK → Prop
def LiftC (K : KT) (r : List V → Hp → VK → Prop) (r2 : DC) : Prop := ∀ x H d G R Q, HRel K G H → DvL K H x d → r2 d G R → CloR K H Q R → r x H Q
def dCB (r : DC) (dl : DA) : DE := fun δ G R EX => dl δ G (fun xs G1 => r xs G1 R) EX
theorem up_cb {r : List V → Hp → VK → Prop} {r2 : DC} (l : ∀ T, LiftC (X.K, T) r r2) {σ : L2.St} {H : Hp} {Q : VK} : up (kt X E) E.1 (dCB r2 dl) σ H Q → tCB r (upA (kt X E) E.1 dl) σ H Q := fun ⟨δ, G, R, EX, sr, hr, h, cr, cx⟩ => ⟨δ, G, _, EX, sr, hr, h, fun x H1 d G1 u1 h1 r1 q1 => l _ x H1 d G1 R Q h1 r1 q1 (cr.up u1), cx⟩
theorem pd_callB {id : String} {x : Str} {p : Pos} {r : List V → Hp → VK → Prop} {r2 : DC} (hc : CallR X (.builtin id) r) (l : ∀ T, LiftC (X.K, T) r r2) (hg : Gl X x) (hm : X.mg x = none) (hv : bootBuiltins x = some (.builtin id)) (ha : PDA X E (e :: es) dl) (hn : x ≠ "__name__" := by decide) (hdb : (x == ("__debug__" : Str)) = false := by decide)
    (he : starEach (e :: es) X.env = (false, eval e X.env) :: starEach es X.env := by rfl) (hpl : (backTo pos (starEach es X.env)).any (·.1) = false := by rfl) : PD X E (.Call (.Name x p) (e :: es) [] pos) (dCB r2 dl) :=
  ⟨imE (pe_callB hc hg hm hv ha.pa hn hdb (he := he) (hpl := hpl)) fun _ _ _ => up_cb l⟩
theorem pd_callTy {T : String} {x : Str} {p : Pos} {r : List V → Hp → VK → Prop} {r2 : DC} (hc : CallR X (.type T) r) (l : ∀ T, LiftC (X.K, T) r r2) (hg : Gl X x) (hm : X.mg x = none) (hv : bootBuiltins x = some (.type T)) (ha : PDA X E (e :: es) dl) (hn : x ≠ "__name__" := by decide) (hdb : (x == ("__debug__" : Str)) = false := by decide)
    (he : starEach (e :: es) X.env = (false, eval e X.env) :: starEach es X.env := by rfl) (hpl : (backTo pos (starEach es X.env)).any (·.1) = false := by rfl) : PD X E (.Call (.Name x p) (e :: es) [] pos) (dCB r2 dl) :=
  ⟨imE (pe_callTy hc hg hm hv ha.pa hn hdb (he := he) (hpl := hpl)) fun _ _ _ => up_cb l⟩
/-- a def of the module -/
def dCall (sd : SpD) (dl : DA) : DE := fun δ G R EX => dl δ G (fun xs G1 => sd xs G1 R EX) EX
theorem up_call {sd : SpD} {σ : L2.St} {H : Hp} {Q : VK} : up (kt X E) E.1 (dCall sd dl) σ H Q → tCall (upF (kt X E) sd) [] E.1 (upA (kt X E) E.1 dl) σ H Q := fun ⟨δ, G, R, EX, sr, hr, h, cr, cx⟩ =>
  ⟨δ, G, _, EX, sr, hr, h, fun x H1 d G1 u1 h1 r1 q1 => by show upF (kt X E) sd (x ++ []) H1 Q E.1; rw [List.append_nil]; exact ⟨d, G1, R, EX, r1, h1, q1, cr.up u1, cx.up u1⟩, cx⟩
theorem pd_call {CX : CXT} {k : Nat} {f : Addr} {fd : FuncData} {ps : List Str} {sd : SpD} {x : Str} {p : Pos} (F : FnOk X.prog X.w X.K X.mg X.base CX k f fd ps (upF (kt X E) sd)) (hr : Room k X.A) (hg : Gl X x) (hm : X.mg x = some (.ref f)) (hk : PySem.W.keepIn X.K (.ref f) = true) (hb : Binds X.K fd ps []) (hx : Passes CX X E.1)
    (ha : PDA X E (e :: es) dl) (hdb : (x == ("__debug__" : Str)) = false := by decide) (he : starEach (e :: es) X.env = (false, eval e X.env) :: starEach es X.env := by rfl) (hpl : (backTo pos (starEach es X.env)).any (·.1) = false := by rfl) :
    PD X E (.Call (.Name x p) (e :: es) [] pos) (dCall sd dl) := ⟨imE (pe_call F hr hg hm hk hb .nil hx ha.pa hdb he hpl) fun _ _ _ => up_call⟩
theorem pd_call0 {CX : CXT} {k : Nat} {f : Addr} {fd : FuncData} {ps : List Str} {sd : SpD} {x : Str} {p : Pos} (F : FnOk X.prog X.w X.K X.mg X.base CX k f fd ps (upF (kt X E) sd)) (hr : Room k X.A) (hg : Gl X x) (hm : X.mg x = some (.ref f)) (hk : PySem.W.keepIn X.K (.ref f) = true) (hb : Binds X.K fd ps []) (hx : Passes CX X E.1)
    (hdb : (x == ("__debug__" : Str)) = false := by decide) : PD X E (.Call (.Name x p) [] [] pos) (dCall sd dNil) := ⟨imE (pe_call0 F hr hg hm hk hb .nil hx hdb) fun σ H Q ⟨δ, G, R, EX, sr, hr, h, cr, cx⟩ => ⟨[], G, R, EX, .nil, hr, h, cr, cx⟩⟩
end
end Cc
/-! ### targets, statements, loops, comprehensions -/
namespace Cc
open PySem PySem.Spec PyProof.Rows L2
abbrev DG := D → DS → DH → (DS → DH → Prop) → DX → Prop
abbrev DGs := List D → DS → DH → (DS → DH → Prop) → DX → Prop
def upG (K : KT) (E : XK) (g : DG) : TG := fun v σ H Q => ∃ d δ G R EX, Dv K H v d ∧ SRel K H σ δ ∧ HRel K G H ∧ g d δ G R EX ∧ CloS K H Q R ∧ CloX K H E EX
def upGs (K : KT) (E : XK) (g : DGs) : TGs := fun v σ H Q => ∃ d δ G R EX, DvL K H v d ∧ SRel K H σ δ ∧ HRel K G H ∧ g d δ G R EX ∧ CloS K H Q R ∧ CloX K H E EX
structure PDG (X : Cx) (E : EK) (t : Expr) (g : DG) : Prop where
  pg : PG X t (upG (kt X E) E.1 g)
structure PDGs (X : Cx) (E : EK) (t : List Expr) (g : DGs) : Prop where
  pgs : PGs X t (upGs (kt X E) E.1 g)
theorem imG {X : Cx} {e : Expr} {t u : TG} (h : PG X e t) (k : ∀ v σ H Q, u v σ H Q → t v σ H Q) : PG X e u := ⟨fun pins s σ H v x Q I r q => h.run pins s σ H v x Q I r (k v σ H Q q)⟩
theorem imGs {X : Cx} {e : List Expr} {t u : TGs} (h : PGs X e t) (k : ∀ v σ H Q, u v σ H Q → t v σ H Q) : PGs X e u := ⟨fun pins s σ H v x Q I r q => h.run pins s σ H v x Q I r (k v σ H Q q)⟩
section
variable {X : Cx} {E : EK} {a b c e : Expr} {es rest : List Expr} {pos : Pos} {da db dc de : DE} {dA dB : DT} {dl : DA} {g : DG} {gs : DGs} {st : Stmt} {sts body : List Stmt} {t u : DSt}
def gN (i : Nat) : DG := fun d δ G R _ => R (δ.set i (some d)) G
def gsNil : DGs := fun ds δ G R _ => ds = [] ∧ R δ G
def gsCons (g : DG) (gs : DGs) : DGs := fun ds δ G R EX => match ds with
  | d :: r => g d δ G (fun δ1 G1 => gs r δ1 G1 R EX) EX
  | [] => False
def gT (n : Nat) (gs : DGs) : DG := fun d δ G R EX => match d.tl with
  | some l => l.length = n ∧ gs l δ G R EX
  | none => False
theorem up_gN {i : Nat} {v : V} {σ : L2.St} {H : Hp} {Q : L2.St → Hp → Prop} : upG (kt X E) E.1 (gN i) v σ H Q → gName i v σ H Q := fun ⟨d, δ, G, R, EX, dv, sr, hr, h, cr, cx⟩ => cr _ _ _ _ (Up.refl H) (sr.set dv) hr h
theorem pdg_name {i : Nat} {x : Str} (hN : X.N.Nodup) (hi : X.N[i]? = some x) (hx : Loc X.env.scope x) (hf : X.fn x = true ∨ X.env.scope.names.lookup x = some .local := by first | exact .inl rfl | exact .inr rfl | assumption) : PDG X E (.Name x pos) (gN i) :=
  ⟨imG (pg_name hN hi hx hf) fun _ _ _ _ => up_gN⟩
theorem pdgs_nil : PDGs X E [] gsNil := ⟨imGs pgs_nil fun v σ H Q ⟨d, δ, G, R, EX, dv, sr, hr, h, cr, cx⟩ => by
  obtain ⟨rfl, h⟩ := h
  cases dv
  exact ⟨rfl, cr _ _ _ _ (Up.refl H) sr hr h⟩⟩
theorem pdgs_cons (h1 : PDG X E e g) (h2 : PDGs X E es gs) (hs : (assignEach (e :: es) X.env).map (·.2) = assign e X.env :: (assignEach es X.env).map (·.2) := by rfl) : PDGs X E (e :: es) (gsCons g gs) :=
  ⟨imGs (pgs_cons h1.pg h2.pgs hs) fun v σ H Q ⟨d, δ, G, R, EX, dv, sr, hr, h, cr, cx⟩ => by
    cases dv with
    | nil => exact False.elim h
    | cons r rr => exact ⟨_, _, rfl, ⟨_, δ, G, _, EX, r, sr, hr, h, fun σ1 H1 δ1 G1 u1 s1 h1 q1 => ⟨_, δ1, G1, R, EX, rr.up u1, s1, h1, q1, cr.up u1, cx.up u1⟩, cx⟩⟩⟩
theorem pdg_tup {k n : Nat} (hc : X.calm = true) (h : PDGs X E es gs) (hn : (assignEach es X.env).length = n := by rfl) (hst : (assignEach es X.env).findIdx? (·.1) = none := by rfl) : PDG X E (.Tuple es k pos) (gT n gs) :=
  ⟨imG (pg_tup hc h.pgs hn hst) fun v σ H Q ⟨d, δ, G, R, EX, dv, sr, hr, h, cr, cx⟩ => by
    unfold gT at h
    split at h
    · rename_i l e
      obtain ⟨a, xs, rfl, hq, r⟩ := dv.sqT e
      exact ⟨_, _, rfl, hq, by rw [r.length]; exact h.1, _, δ, G, R, EX, r, sr, hr, h.2, cr, cx⟩
    · exact False.elim h⟩
/-- o[i] = .. -/
abbrev DSet := D → D → D → DH → (DH → Prop) → Prop
def LiftSet (K : KT) (t : TSet) (t2 : DSet) : Prop := ∀ o i v H d e f G (R : DH → Prop) (Q : Hp → Prop), HRel K G H → Dv K H o d → Dv K H i e → Dv K H v f → t2 d e f G R → (∀ H' G', Up H H' → HRel K G' H' → R G' → Q H') → t o i v H Q
def gS (da db : DE) (t : DSet) : DG := fun v δ G R EX => da δ G (fun o G1 => db δ G1 (fun i G2 => t o i v G2 fun G3 => R δ G3) EX) EX
theorem pdg_sub {t1 : TSet} {t2 : DSet} (hs : PSet X t1) (l : ∀ T, LiftSet (X.K, T) t1 t2) (ha : PD X E a da) (hb : PD X E b db)
    (hh : ∀ v, assign (.Subscript a b pos) X.env v = (do
      let ov ← holding [v] (eval a X.env)
      let iv ← holding [v, ov] (eval b X.env)
      standAt pos
      holding [v, ov, iv] (setItem ov iv v)
      release [v, ov, iv] []) := by intro _; rfl) : PDG X E (.Subscript a b pos) (gS da db t2) :=
  ⟨imG (pg_sub ha.pe hb.pe hs hh) fun v σ H Q ⟨d, δ, G, R, EX, dv, sr, hr, h, cr, cx⟩ =>
    ⟨δ, G, _, EX, sr, hr, h, fun o H1 d1 G1 u1 h1 r1 q1 => ⟨δ, G1, _, EX, sr.up u1, h1, q1, fun i H2 d2 G2 u2 h2 r2 q2 =>
      l _ o i v H2 d1 d2 d G2 _ _ h2 (r1.up u2) r2 (dv.up (u1.trans u2)) q2 fun H3 G3 u3 h3 q3 => cr _ _ _ _ (u1.trans (u2.trans u3)) (sr.up (u1.trans (u2.trans u3))) h3 q3, cx.up u1⟩, cx⟩⟩
/-! statements -/
def sAsg (da : DE) (g : DG) : DSt := fun D δ G => da δ G (fun x G1 => g x δ G1 D.nx D.ex) D.ex
theorem up_asg {σ : L2.St} {H : Hp} {Dn : Ends} : upS (kt X E) E.1 (sAsg da g) Dn σ H → tAsg (up (kt X E) E.1 da) (upG (kt X E) E.1 g) Dn σ H := fun ⟨δ, G, DD, sr, hr, h, cn, ct, cb, cc, cx⟩ =>
  ⟨δ, G, _, DD.ex, sr, hr, h, fun x H1 d G1 u1 h1 r1 q1 => ⟨d, δ, G1, DD.nx, DD.ex, r1, sr.up u1, h1, q1, cn.up u1, cx.up u1⟩, cx⟩
theorem pds_asg {tg : Expr} (he : PD X E e de) (hg : PDG X E tg g) (hs : swapsWithSole [tg] e pos.line X.env = pure false := by rfl) (hw : swappedStores [tg] e X.env = pure none := by rfl)
    (h1 : (assignEach [tg] X.env).map (·.2) = [assign tg X.env] := by rfl) : PDS X E (.Assign [tg] e pos) (sAsg de g) := ⟨imS (ps_asg he.pe hg.pg hs hw h1) fun _ _ _ => up_asg⟩
def sDrop (da : DE) : DSt := fun D δ G => da δ G (fun _ G1 => D.nx δ G1) D.ex
theorem pds_expr (he : PD X E e de) (hs : swapsWith e none pos.line X.env = pure false := by rfl) : PDS X E (.Expr e pos) (sDrop de) := ⟨imS (ps_expr he.pe hs) fun Dn σ H ⟨δ, G, DD, sr, hr, h, cn, ct, cb, cc, cx⟩ =>
  ⟨δ, G, _, DD.ex, sr, hr, h, fun x H1 d G1 u1 h1 r1 q1 => cn _ _ _ _ u1 (sr.up u1) h1 q1, cx⟩⟩
def sRet (da : DE) : DSt := fun D δ G => da δ G D.rt D.ex
theorem pds_ret (he : PD X E e de) : PDS X E (.Return (some e) pos) (sRet de) := ⟨imS (ps_ret he.pe) fun Dn σ H ⟨δ, G, DD, sr, hr, h, cn, ct, cb, cc, cx⟩ => ⟨δ, G, _, DD.ex, sr, hr, h, ct, cx⟩⟩
def sRetN : DSt := fun D _ G => D.rt .non G
theorem pds_retN : PDS X E (.Return none pos) sRetN := ⟨imS ps_retN fun Dn σ H ⟨δ, G, DD, sr, hr, h, cn, ct, cb, cc, cx⟩ => ct _ _ _ _ (Up.refl H) hr .non h⟩
def sNext : DSt := fun D δ G => D.nx δ G
theorem pds_pass : PDS X E (.Pass pos) sNext := ⟨imS ps_pass fun Dn σ H ⟨δ, G, DD, sr, hr, h, cn, ct, cb, cc, cx⟩ => cn _ _ _ _ (Up.refl H) sr hr h⟩
def sSeq (t u : DSt) : DSt := fun D δ G => t { D with nx := u D } δ G
theorem pdss_nil : PDSs X E [] sNext := ⟨imSs pss_nil fun Dn σ H ⟨δ, G, DD, sr, hr, h, cn, ct, cb, cc, cx⟩ => cn _ _ _ _ (Up.refl H) sr hr h⟩
theorem pdss_cons (h1 : PDS X E st t) (h2 : PDSs X E sts u) : PDSs X E (st :: sts) (sSeq t u) := ⟨imSs (pss_cons h1.ps h2.ps) fun Dn σ H ⟨δ, G, DD, sr, hr, h, cn, ct, cb, cc, cx⟩ =>
  ⟨δ, G, _, sr, hr, h, fun σ1 H1 δ1 G1 u1 s1 h1 q1 => ⟨δ1, G1, DD, s1, h1, q1, cn.up u1, ct.up u1, cb.up u1, cc.up u1, cx.up u1⟩, ct, cb, cc, cx⟩⟩
theorem pdss_one (h1 : PDS X E st t) : PDSs X E [st] t := ⟨pss_one h1.ps⟩
def sIf (c : DT) (t u : DSt) : DSt := fun D δ G => c δ G (fun b G1 => if b = true then t D δ G1 else u D δ G1) D.ex
theorem pds_if {ss : List Stmt} (hc : PDT X E c dA) (ha : PDSs X E sts t) (hb : PDSs X E ss u) : PDS X E (.If c sts ss pos) (sIf dA t u) := ⟨imS (ps_if hc.pt ha.ps hb.ps) fun Dn σ H ⟨δ, G, DD, sr, hr, h, cn, ct, cb, cc, cx⟩ =>
  ⟨δ, G, _, DD.ex, sr, hr, h, fun b H1 G1 u1 h1 q1 => by
    cases b with
    | true => rw [if_pos rfl] at q1 ⊢; exact ⟨δ, G1, DD, sr.up u1, h1, q1, cn.up u1, ct.up u1, cb.up u1, cc.up u1, cx.up u1⟩
    | false => rw [if_neg Bool.false_ne_true] at q1 ⊢; exact ⟨δ, G1, DD, sr.up u1, h1, q1, cn.up u1, ct.up u1, cb.up u1, cc.up u1, cx.up u1⟩, cx⟩⟩
/-! what is walked -/
structure SrcOk (K : KT) (J : It) (l : List D) (ok : DH → Prop) (H0 : Hp) : Prop where
  mono : ∀ G G' : DH, Sub G G' → ok G → ok G'
  at_ : ∀ (i : Nat) (H : Hp) (G : DH), Up H0 H → HRel K G H → ok G →
    (i < l.length → J.go i H ∧ ∀ x H', J.yld i H x H' → ∃ d, l[i]? = some d ∧ Up H H' ∧ HRel K G H' ∧ Dv K H' x d) ∧ (l.length ≤ i → J.stop i H)
abbrev DI := DS → DH → (List D → (DH → Prop) → DH → Prop) → DX → Prop
def upI (K : KT) (E : XK) (di : DI) : TI := fun σ H R => ∃ δ G RR EX, SRel K H σ δ ∧ HRel K G H ∧ di δ G RR EX ∧ (∀ J l ok H' G', Up H H' → HRel K G' H' → SrcOk K J l ok H' → RR l ok G' → R J H') ∧ CloX K H E EX
structure PDI (X : Cx) (E : EK) (tg iter : Expr) (di : DI) : Prop where
  pi : PI X tg iter (upI (kt X E) E.1 di)
theorem imI {X : Cx} {tg iter : Expr} {t u : TI} (h : PI X tg iter t) (k : ∀ σ H Q, u σ H Q → t σ H Q) : PI X tg iter u := ⟨fun pins s σ H Q I q => h.run pins s σ H Q I (k σ H Q q)⟩
/-- a tuple, or a list that stands still -/
def iSq (da : DE) : DI := fun δ G RR EX => da δ G (fun d G1 => match d with
  | .tup l => RR l (fun _ => True) G1
  | .key ks => RR (ks.map kD) (fun _ => True) G1
  | .rol l => RR l (fun _ => True) G1
  | .wol l => RR l (fun _ => True) G1
  | .ptp l => RR l (fun _ => True) G1
  | .ref a => ∃ l, G1 a = some (.lst l) ∧ RR l (fun G => G a = some (.lst l)) G1
  | _ => False) EX
theorem sqT_inj {K : KT} {H : Hp} {a : Addr} {xs ys : List V} (h : SqT K.1 H a xs) : True := trivial
theorem src_tup {K : KT} {H0 : Hp} {a : Addr} {xs : List V} {l : List D} (hq : SqT K.1 H0 a xs) (r : DvL K H0 xs l) : SrcOk K (Itt K.1 a) l (fun _ => True) H0 where
  mono := fun _ _ _ h => h
  at_ := fun i H G u hr _ => by
    refine ⟨fun hi => ?_, fun hi => ⟨xs, u.sqT hq, by rw [r.length]; exact hi⟩⟩
    have hx : i < xs.length := by rw [r.length]; exact hi
    refine ⟨⟨xs, xs[i], u.sqT hq, List.getElem?_eq_getElem hx⟩, fun x H' ⟨e, y⟩ => ?_⟩
    subst e
    obtain ⟨d, h1, h2⟩ := (r.up u).get' (y xs (u.sqT hq))
    exact ⟨d, h1, Up.refl _, hr, h2⟩
theorem src_rol {K : KT} {H0 : Hp} {a : Addr} {xs : List V} {l : List D} (hq : SqR K.1 H0 a xs) (r : DvL K H0 xs l) : SrcOk K (Itl K.1 a) l (fun _ => True) H0 where
  mono := fun _ _ _ h => h
  at_ := fun i H G u hr _ => by
    have q := (u.sqR hq).sqL
    refine ⟨fun hi => ?_, fun hi => ⟨xs, q, by rw [r.length]; exact hi⟩⟩
    have hx : i < xs.length := by rw [r.length]; exact hi
    refine ⟨⟨xs, xs[i], q, List.getElem?_eq_getElem hx⟩, fun x H' ⟨e, y⟩ => ?_⟩
    subst e
    obtain ⟨d, h1, h2⟩ := (r.up u).get' (y xs q)
    exact ⟨d, h1, Up.refl _, hr, h2⟩
theorem src_lst {K : KT} {H0 : Hp} {a : Addr} {l : List D} : SrcOk K (Itl K.1 a) l (fun G => G a = some (.lst l)) H0 where
  mono := fun _ _ s h => s _ _ h
  at_ := fun i H G u hr ok => by
    obtain ⟨xs, e, r⟩ := hr a _ ok
    have q : SqL K.1 H a xs := SqL.of e
    refine ⟨fun hi => ?_, fun hi => ⟨xs, q, by rw [r.length]; exact hi⟩⟩
    have hx : i < xs.length := by rw [r.length]; exact hi
    refine ⟨⟨xs, xs[i], q, List.getElem?_eq_getElem hx⟩, fun x H' ⟨e, y⟩ => ?_⟩
    subst e
    obtain ⟨d, h1, h2⟩ := r.get' (y xs q)
    exact ⟨d, h1, Up.refl _, hr, h2⟩
theorem pdi_seq {tg : Expr} (he : PD X E e de) : PDI X E tg e (iSq de) := by
  refine ⟨⟨fun pins s σ H R I h => ?_⟩⟩
  obtain ⟨δ, G, RR, EX, sr, hr, h, cr, cx⟩ := h
  -- what is walked decides between the two library rules: read the value first
  refine thn (he.pe.run pins s σ H (fun v H1 => (∃ a, v = .ref a ∧ (∃ xs, SqL X.K H1 a xs) ∧ R (Itl X.K a) H1) ∨ (∃ a, v = .ref a ∧ (∃ xs, SqT X.K H1 a xs) ∧ R (Itt X.K a) H1)) I ⟨δ, G, _, EX, sr, hr, h, fun v H1 d G1 u1 h1 r1 q1 => ?_, cx⟩) fun v s1 ⟨x, H1, I1, r1, q1⟩ => ?_
  · cases r1 with
    | tup hq r => exact .inr ⟨_, rfl, ⟨_, hq⟩, cr _ _ _ _ _ u1 h1 (src_tup hq r) q1⟩
    | key hq => exact .inr ⟨_, rfl, ⟨_, SqT.of hq⟩, cr _ _ _ _ _ u1 h1 (src_tup (SqT.of hq) (dvL_kD _)) q1⟩
    | rol hq r => exact .inl ⟨_, rfl, ⟨_, hq.sqL⟩, cr _ _ _ _ _ u1 h1 (src_rol (by obtain ⟨o, h⟩ := hq; exact .inl ⟨o, h⟩) r) q1⟩
    | wol hq r => exact .inl ⟨_, rfl, ⟨_, hq.sqL⟩, cr _ _ _ _ _ u1 h1 (src_rol hq r) q1⟩
    | ptp hq r =>
      obtain ⟨o, hq, _⟩ := hq
      exact .inr ⟨_, rfl, ⟨_, .inl (.inr ⟨o, hq⟩)⟩, cr _ _ _ _ _ u1 h1 (src_tup (.inl (.inr ⟨o, hq⟩)) r) q1⟩
    | ref a =>
      obtain ⟨l, e, q⟩ := q1
      obtain ⟨xs, e1, _⟩ := h1 a _ e
      exact .inl ⟨_, rfl, ⟨_, SqL.of e1⟩, cr _ _ _ _ _ u1 h1 src_lst q⟩
    | _ => exact False.elim q1
  · rcases q1 with ⟨a, e, ⟨xs, hq⟩, q⟩ | ⟨a, e, ⟨xs, hq⟩, q⟩
    · subst e
      cases r1
      obtain ⟨its, rv, p, hz⟩ := I1.list hq
      refine wpAny_pyIter_list p.isList ?_
      refine ⟨s1.heap.objs.size, [s1.heap.objs.size], _, _, H1, rfl, I1.kept (t' := s1.toks) fun b o e => Heap.get?_push_of_some _ e, turn_list a _, ⟨_, Heap.get?_push_size _ rfl, rfl, rfl⟩, fun b hb => ?_, q⟩
      have e : b = s1.heap.objs.size := by simpa using hb
      subst e
      exact I1.fpOk (Nat.le_refl _) (I1.hok.fresh (Nat.le_refl _))
    · subst e
      cases r1
      obtain ⟨its, rv, p, hz⟩ := I1.tuple hq
      refine wpAny_pyIter_tuple (show s1.heap.IsTuple a its.toArray from p) ?_
      refine ⟨s1.heap.objs.size, [s1.heap.objs.size], _, _, H1, rfl, I1.kept (t' := s1.toks) fun b o e => Heap.get?_push_of_some _ e, turn_tuple a _, ⟨_, Heap.get?_push_size _ rfl, rfl, rfl⟩, fun b hb => ?_, q⟩
      have e : b = s1.heap.objs.size := by simpa using hb
      subst e
      exact I1.fpOk (Nat.le_refl _) (I1.hok.fresh (Nat.le_refl _))
def rangeD (lo : Int) (n : Nat) : List D := (List.range n).map fun i => .int (lo + (i : Nat))
theorem src_range {K : KT} {H0 : Hp} {lo : Int} {n : Nat} : SrcOk K (Itr lo n) (rangeD lo n) (fun _ => True) H0 where
  mono := fun _ _ _ h => h
  at_ := fun i H G u hr _ => by
    have hl : (rangeD lo n).length = n := by unfold rangeD; rw [List.length_map, List.length_range]
    refine ⟨fun hi => ⟨by rw [hl] at hi; exact hi, fun x H' ⟨e, y⟩ => ?_⟩, fun hi => by rw [hl] at hi; exact hi⟩
    subst e y
    rw [hl] at hi
    refine ⟨_, ?_, Up.refl _, hr, .int _⟩
    unfold rangeD
    rw [List.getElem?_map, List.getElem?_range hi]
    rfl
/-- range(n), range(a, b) -/
def iRange1 (da : DE) : DI := fun δ G RR EX => da δ G (fun d G1 => match d with
  | .int j => (-(2 ^ 62) ≤ j ∧ j < 2 ^ 62) ∧ RR (rangeD 0 j.toNat) (fun _ => True) G1
  | _ => False) EX
def iRange2 (da db : DE) : DI := fun δ G RR EX => da δ G (fun d G1 => db δ G1 (fun e G2 => match d, e with
  | .int i, .int j => (-(2 ^ 62) ≤ i ∧ i < 2 ^ 62 ∧ -(2 ^ 62) ≤ j ∧ j < 2 ^ 62) ∧ RR (rangeD i (j - i).toNat) (fun _ => True) G2
  | _, _ => False) EX) EX
theorem pdi_range1 {tg : Expr} {p : Pos} (hg : Gl X "range") (hm : X.mg "range" = none) (ha : PD X E a da) (hs : starEach [a] X.env = [(false, eval a X.env)] := by rfl) (hs' : starEach (a :: []) X.env = (false, eval a X.env) :: starEach [] X.env := by rfl) : PDI X E tg (.Call (.Name "range" p) [a] [] pos) (iRange1 da) :=
  ⟨imI (pi_range1 hg hm (pa_cons ha.pe pa_nil hs') hs) fun σ H R ⟨δ, G, RR, EX, sr, hr, h, cr, cx⟩ => ⟨δ, G, _, EX, sr, hr, h, fun x H1 d G1 u1 h1 r1 q1 => by
    cases r1 with
    | int j => exact ⟨j, rfl, q1.1.1, q1.1.2, cr _ _ _ _ _ u1 h1 src_range q1.2⟩
    | _ => exact False.elim q1, cx⟩⟩
theorem pdi_range2 {tg : Expr} {p : Pos} (hg : Gl X "range") (hm : X.mg "range" = none) (ha : PD X E a da) (hb : PD X E b db) (hs : starEach [a, b] X.env = [(false, eval a X.env), (false, eval b X.env)] := by rfl) (hs2 : starEach [b] X.env = [(false, eval b X.env)] := by rfl)
    (hs' : starEach (a :: [b]) X.env = (false, eval a X.env) :: starEach [b] X.env := by rfl) (hs'' : starEach (b :: []) X.env = (false, eval b X.env) :: starEach [] X.env := by rfl) : PDI X E tg (.Call (.Name "range" p) [a, b] [] pos) (iRange2 da db) :=
  ⟨imI (pi_range2 hg hm (pa_cons ha.pe (pa_cons hb.pe pa_nil hs'') hs') hs hs2) fun σ H R ⟨δ, G, RR, EX, sr, hr, h, cr, cx⟩ => ⟨δ, G, _, EX, sr, hr, h, fun x H1 d G1 u1 h1 r1 q1 => ⟨δ, G1, _, EX, sr.up u1, h1, q1, fun y H2 e G2 u2 h2 r2 q2 => by
    cases r1 with
    | int i =>
      cases r2 with
      | int j => exact ⟨i, j, rfl, q2.1, cr _ _ _ _ _ (u1.trans u2) h2 src_range q2.2⟩
      | _ => exact False.elim q2
    | _ => exact False.elim q2, cx.up u1⟩, cx⟩⟩
def enumD (l : List D) : List D := (List.range l.length).map fun i => .tup [.int (i : Nat), l.getD i .non]
theorem enumD_length (l : List D) : (enumD l).length = l.length := by unfold enumD; rw [List.length_map, List.length_range]
theorem src_enum {K : KT} {H0 : Hp} {a : Addr} {l : List D} : SrcOk K (Ite K.1 a) (enumD l) (fun G => G a = some (.lst l)) H0 where
  mono := fun _ _ s h => s _ _ h
  at_ := fun i H G u hr ok => by
    obtain ⟨xs, e, r⟩ := hr a _ ok
    have q : SqL K.1 H a xs := SqL.of e
    rw [enumD_length]
    refine ⟨fun hi => ?_, fun hi => ⟨xs, q, by rw [r.length]; exact hi⟩⟩
    have hx : i < xs.length := by rw [r.length]; exact hi
    refine ⟨⟨xs, xs[i], q, List.getElem?_eq_getElem hx⟩, fun x H' y => ?_⟩
    obtain ⟨T, v, ex, nT, eH, hv⟩ := y
    subst ex eH
    obtain ⟨d, h1, h2⟩ := r.get' (hv xs q)
    refine ⟨.tup [.int (i : Nat), d], ?_, Up.new nT, hr.new0 nT, .tup (SqT.of upd_same) (.cons (.int _) (.cons (h2.up (Up.new nT)) .nil))⟩
    unfold enumD
    rw [List.getElem?_map, List.getElem?_range hi]
    simp only [Option.map_some]
    rw [List.getD_eq_getElem?_getD, h1]
    rfl
/-- enumerate(a list) -/
def iEnumD (da : DE) : DI := fun δ G RR EX => da δ G (fun d G1 => match d with
  | .ref a => ∃ l, G1 a = some (.lst l) ∧ RR (enumD l) (fun G => G a = some (.lst l)) G1
  | _ => False) EX
theorem pdi_enum {tg : List Expr} {kk : Nat} {tpos p : Pos} (hg : Gl X "enumerate") (hm : X.mg "enumerate" = none) (ha : PD X E a da) (hs : starEach [a] X.env = [(false, eval a X.env)] := by rfl) (hs' : starEach (a :: []) X.env = (false, eval a X.env) :: starEach [] X.env := by rfl) :
    PDI X E (.Tuple tg kk tpos) (.Call (.Name "enumerate" p) [a] [] pos) (iEnumD da) :=
  ⟨imI (pi_enum hg hm (pa_cons ha.pe pa_nil hs') hs) fun σ H R ⟨δ, G, RR, EX, sr, hr, h, cr, cx⟩ => ⟨δ, G, _, EX, sr, hr, h, fun x H1 d G1 u1 h1 r1 q1 => by
    cases r1 with
    | ref a =>
      obtain ⟨l, e, q⟩ := q1
      obtain ⟨xs, e1, _⟩ := h1 a _ e
      exact ⟨a, xs, rfl, SqL.of e1, cr _ _ _ _ _ u1 h1 src_enum q⟩
    | _ => exact False.elim q1, cx⟩⟩
/-! for -/
def goFor (ok : DH → Prop) (g : DG) (tb : DSt) (D : DEnds) : List Cc.D → DS → DH → Prop
  | [], δ, G => ok G ∧ D.nx δ G
  | x :: xs, δ, G => ok G ∧ g x δ G (fun δ2 G2 => tb { D with nx := goFor ok g tb D xs, ct := goFor ok g tb D xs, bk := D.nx } δ2 G2) D.ex
def sFor (di : DI) (g : DG) (tb : DSt) : DSt := fun D δ G => di δ G (fun l ok G1 => goFor ok g tb D l δ G1) D.ex
theorem up_for {di : DI} {Dn : Ends} {σ : L2.St} {H : Hp} : upS (kt X E) E.1 (sFor di g t) Dn σ H → tFor (upI (kt X E) E.1 di) (upG (kt X E) E.1 g) (upS (kt X E) E.1 t) Dn σ H := fun ⟨δ, G, DD, sr, hr, h, cn, ct, cb, cc, cx⟩ => by
  refine ⟨δ, G, _, DD.ex, sr, hr, h, fun J l ok H0 G0 u0 h0 so q0 => ?_, cx⟩
  have sr0 := sr.up u0
  refine ⟨fun i m σ H => m = l.length - i ∧ i ≤ l.length ∧ ∃ δ G, SRel (kt X E) H σ δ ∧ HRel (kt X E) G H ∧ Up H0 H ∧ goFor ok g t DD (l.drop i) δ G, ⟨l.length, by simp, Nat.zero_le _, δ, G0, sr0, h0, Up.refl _, by simpa using q0⟩, ?_⟩
  rintro i m σ1 H1 ⟨rfl, hi, δ1, G1, s1, h1, u1, q1⟩
  by_cases hlt : i < l.length
  · rw [List.drop_eq_getElem_cons hlt] at q1
    obtain ⟨k1, q1⟩ := q1
    obtain ⟨gx, yx⟩ := (so.at_ i H1 G1 u1 h1 k1).1 hlt
    refine .inr ⟨gx, fun σ2 H2 => ∃ δ2 G2, SRel (kt X E) H2 σ2 δ2 ∧ HRel (kt X E) G2 H2 ∧ Up H0 H2 ∧ goFor ok g t DD (l.drop (i + 1)) δ2 G2, fun σ2 H2 ⟨δ2, G2, a1, a2, a3, a4⟩ => ⟨l.length - (i + 1), by omega, rfl, hlt, δ2, G2, a1, a2, a3, a4⟩, fun x H2 y => ?_⟩
    obtain ⟨d, e1, u2, h2, r2⟩ := yx x H2 y
    rw [List.getElem?_eq_getElem hlt] at e1
    cases e1
    have u02 := u0.trans (u1.trans u2)
    refine ⟨_, δ1, G1, _, DD.ex, r2, s1.up u2, h2, q1, fun σ3 H3 δ3 G3 u3 s3 h3 q3 => ?_, cx.up u02⟩
    have u03 := u02.trans u3
    refine ⟨δ3, G3, _, s3, h3, q3, fun σ4 H4 δ4 G4 u4 s4 h4 q4 => ⟨δ4, G4, s4, h4, u1.trans (u2.trans (u3.trans u4)), q4⟩, ct.up u03, cn.up u03, fun σ4 H4 δ4 G4 u4 s4 h4 q4 => ⟨δ4, G4, s4, h4, u1.trans (u2.trans (u3.trans u4)), q4⟩, cx.up u03⟩
  · have e : i = l.length := by omega
    subst e
    rw [List.drop_length] at q1
    exact .inl ⟨(so.at_ _ H1 G1 u1 h1 q1.1).2 (Nat.le_refl _), cn _ _ _ _ (u0.trans u1) s1 h1 q1.2⟩
theorem pds_for {tg iter : Expr} {di : DI} (hp : PassesOwn (model X.prog X.w) X.A X.env X.xe) (hc : X.calm = true) (hi : PDI X E tg iter di) (hg : PDG X E tg g) (hb : PDSs X E body t)
    (hs : ∀ x, foldedSetIterable iter X.env x = pure x := by intro _; rfl) : PDS X E (.For tg iter body [] pos) (sFor di g t) := ⟨imS (ps_for hp hc hi.pi hg.pg hb.ps hs) fun _ _ _ => up_for⟩
end
end Cc
/-! ### comprehensions, slices, methods, objects -/
namespace Cc
open PySem PySem.Spec PyProof.Rows L2
abbrev noX : DX := fun _ _ _ => False
abbrev noE : XK := fun _ _ _ => False
theorem CloX.no {K : KT} {H : Hp} : CloX K H noE noX := fun _ _ _ _ _ _ h => h
theorem wipe_get {σ : L2.St} {i : Nat} : ∀ {vs : List Nat}, (wipe σ vs)[i]? = if i ∈ vs then (σ[i]?).map (fun _ => none) else σ[i]?
  | [] => by simp [wipe]
  | v :: vs => by
    unfold wipe
    by_cases hb : v = i
    · subst hb
      by_cases hl : v < σ.length
      · rw [List.getElem?_set_self (by rw [wipe_length]; exact hl), if_pos (List.mem_cons_self), List.getElem?_eq_getElem hl]
        rfl
      · rw [List.getElem?_eq_none (by rw [List.length_set, wipe_length]; omega), if_pos (List.mem_cons_self), List.getElem?_eq_none (by omega)]
        rfl
    · rw [List.getElem?_set_ne hb, wipe_get (vs := vs)]
      by_cases hm : i ∈ vs
      · rw [if_pos hm, if_pos (List.mem_cons_of_mem _ hm)]
      · rw [if_neg hm, if_neg (by simp only [List.mem_cons, not_or]; exact ⟨fun e => hb e.symm, hm⟩)]
theorem wipe_set {σ : L2.St} {i : Nat} {o : Option V} {vs : List Nat} (h : i ∈ vs) : wipe (σ.set i o) vs = wipe σ vs := by
  apply List.ext_getElem?
  intro j
  rw [wipe_get, wipe_get]
  by_cases hj : j ∈ vs
  · rw [if_pos hj, if_pos hj]
    by_cases hb : i = j
    · subst hb
      by_cases hl : i < σ.length
      · rw [List.getElem?_set_self hl, List.getElem?_eq_getElem hl]
        rfl
      · rw [List.getElem?_eq_none (by rw [List.length_set]; omega), List.getElem?_eq_none (by omega)]
    · rw [List.getElem?_set_ne hb]
  · rw [if_neg hj, if_neg hj, List.getElem?_set_ne (by intro e; subst e; exact hj h)]
theorem wipe_wipe {σ : L2.St} {vs : List Nat} : wipe (wipe σ vs) vs = wipe σ vs := by
  apply List.ext_getElem?
  intro j
  rw [wipe_get]
  by_cases hj : j ∈ vs
  · rw [if_pos hj, wipe_get, if_pos hj]
    cases σ[j]? <;> rfl
  · rw [if_neg hj]
def wipeD (δ : DS) : List Nat → DS
  | [] => δ
  | v :: vs => (wipeD δ vs).set v none
theorem SRel.setNone {K : KT} {H : Hp} {σ : L2.St} {δ : DS} {i : Nat} (h : SRel K H σ δ) : SRel K H (σ.set i none) (δ.set i none) := by
  refine ⟨by rw [List.length_set, List.length_set]; exact h.1, fun j d q => ?_⟩
  by_cases hb : i = j
  · subst hb
    by_cases hl : i < δ.length
    · rw [List.getElem?_set_self hl] at q; cases q
    · rw [List.getElem?_eq_none (by rw [List.length_set]; omega)] at q; cases q
  · rw [List.getElem?_set_ne hb] at q ⊢
    exact h.2 j d q
theorem SRel.wipe {K : KT} {H : Hp} {σ : L2.St} {δ : DS} (h : SRel K H σ δ) : ∀ vs : List Nat, SRel K H (L2.wipe σ vs) (wipeD δ vs)
  | [] => h
  | v :: vs => (SRel.wipe h vs).setNone
/-- a target of a comprehension: names of its own -/
def CT (vs : List Nat) (g : TG) : Prop := ∀ v σ H Q, g v σ H Q → g v σ H fun σ2 H2 => wipe σ2 vs = wipe σ vs ∧ Q σ2 H2
def CTs (vs : List Nat) (g : TGs) : Prop := ∀ v σ H Q, g v σ H Q → g v σ H fun σ2 H2 => wipe σ2 vs = wipe σ vs ∧ Q σ2 H2
section
variable {X : Cx} {E : EK} {a b c e : Expr} {es rest : List Expr} {pos : Pos} {da db dc de : DE} {dA dB : DT} {dl : DA} {g : DG} {gs : DGs} {st : Stmt} {sts body : List Stmt} {t u : DSt} {vs : List Nat}
structure PDTs (X : Cx) (E : EK) (ifs : List Expr) (t : DT) : Prop where
  ts : PTs X ifs (upT (kt X E) noE t)
def dYes : DT := fun _ G R _ => R true G
theorem pdts_nil : PDTs X E [] dYes := ⟨⟨fun pins s σ H Q I ⟨δ, G, R, EX, sr, hr, h, cr, cx⟩ => wpAny_tests_nil ⟨H, I, cr _ _ _ (Up.refl H) hr h⟩⟩⟩
theorem pdts_one (h : PDT X (noE, E.2) c dA) : PDTs X E [c] dA := ⟨pts_one h.pt⟩
/-- a comprehension over l, the new list at D -/
def goLc (ok : DH → Prop) (D : Addr) (g : DG) (tt : DT) (te : DE) (k : DH → Prop) (δ : DS) : List Cc.D → DH → Prop
  | [], G => ok G ∧ k G
  | x :: xs, G => ok G ∧ g x δ G (fun δ2 G2 => tt δ2 G2 (fun b G3 => if b = true then te δ2 G3 (fun y G4 => ∃ acc, G4 D = some (.lst acc) ∧ acc.length < sizeLine ∧ goLc ok D g tt te k δ xs (updD G4 D (.lst (acc ++ [y])))) noX else goLc ok D g tt te k δ xs G3) noX) noX
def dLc (di : DI) (g : DG) (tt : DT) (te : DE) (vs : List Nat) : DE := fun δ G R EX => di δ G (fun l ok G1 => ∀ D, G1 D = none → goLc ok D g tt te (fun G => R (.ref D) G) (wipeD δ vs) l (updD G1 D (.lst []))) EX
theorem up_lc {E : XK} {di : DI} {g0 : TG} {K : KT} (cg : CT vs g0) (lg : ∀ v σ H Q, upG K noE g v σ H Q → g0 v σ H Q) {σ : L2.St} {H : Hp} {Q : VK} : up K E (dLc di g dA de vs) σ H Q → tLc (upI K E di) g0 (upT K noE dA) (up K noE de) vs σ H Q := fun ⟨δ, G, R, EX, sr, hr, h, cr, cx⟩ => by
  refine ⟨δ, G, _, EX, sr, hr, h, fun J l ok H0 G0 u0 h0 so q0 => ?_, cx⟩
  intro D hD
  have sr0 := sr.up u0
  have uD : Up H0 (upd H0 D (.lst [])) := Up.new hD
  refine ⟨fun i m H => m = l.length - i ∧ i ≤ l.length ∧ ∃ G, HRel K G H ∧ Up H0 H ∧ goLc ok D g dA de (fun G => R (.ref D) G) (wipeD δ vs) (l.drop i) G, ⟨l.length, by simp, Nat.zero_le _, _, h0.new (c := .lst []) hD ⟨[], upd_same, .nil⟩, uD, by simpa using q0 D (h0.none hD)⟩, ?_⟩
  rintro i m H1 ⟨rfl, hi, G1, h1, u1, q1⟩
  by_cases hlt : i < l.length
  · rw [List.drop_eq_getElem_cons hlt] at q1
    obtain ⟨k1, q1⟩ := q1
    obtain ⟨gx, yx⟩ := (so.at_ i H1 G1 u1 h1 k1).1 hlt
    refine .inr ⟨gx, fun H2 => ∃ G2, HRel K G2 H2 ∧ Up H0 H2 ∧ goLc ok D g dA de (fun G => R (.ref D) G) (wipeD δ vs) (l.drop (i + 1)) G2, fun H2 ⟨G2, a2, a3, a4⟩ => ⟨l.length - (i + 1), by omega, rfl, hlt, G2, a2, a3, a4⟩, fun x H2 y => ?_⟩
    obtain ⟨d, e1, u2, h2, r2⟩ := yx x H2 y
    rw [List.getElem?_eq_getElem hlt] at e1
    cases e1
    have u12 := u1.trans u2
    have cw := cg x (wipe σ vs) H2 (fun σ3 H3 => upT K noE dA σ3 H3 fun b H4 => if b = true then up K noE de σ3 H4 fun y H5 => ∃ acc, H5 D = some (.lst acc) ∧ acc.length < sizeLine ∧ (∃ G2, HRel K G2 (upd H5 D (.lst (acc ++ [y]))) ∧ Up H0 (upd H5 D (.lst (acc ++ [y]))) ∧ goLc ok D g dA de (fun G => R (.ref D) G) (wipeD δ vs) (l.drop (i + 1)) G2) else (∃ G2, HRel K G2 H4 ∧ Up H0 H4 ∧ goLc ok D g dA de (fun G => R (.ref D) G) (wipeD δ vs) (l.drop (i + 1)) G2))
      (lg _ _ _ _ ⟨_, wipeD δ vs, G1, _, noX, r2, (sr0.up u12).wipe vs, h2, q1, fun σ3 H3 δ3 G3 u3 s3 h3 q3 => ⟨δ3, G3, _, noX, s3, h3, q3, fun b H4 G4 u4 h4 q4 => ?_, CloX.no⟩, CloX.no⟩)
    · rw [wipe_wipe] at cw
      exact cw
    · have u14 := u12.trans (u3.trans u4)
      cases b with
      | true =>
        rw [if_pos rfl] at q4
        refine iteT ?_
        refine ⟨δ3, G4, _, noX, s3.up u4, h4, q4, fun y H5 dy G5 u5 h5 r5 q5 => ?_, CloX.no⟩
        obtain ⟨acc, ea, hl, q5⟩ := q5
        obtain ⟨xs, ex, rx⟩ := h5 D _ ea
        have uw : Up H5 (upd H5 D (.lst (xs ++ [y]))) := Up.put ex trivial
        exact ⟨xs, ex, by rw [rx.length]; exact hl, _, h5.put (c := .lst (acc ++ [dy])) ex trivial ⟨_, upd_same, (rx.up uw).append (.cons (r5.up uw) .nil)⟩, (u14.trans u5).trans uw, q5⟩
      | false =>
        rw [if_neg Bool.false_ne_true] at q4
        refine iteF ?_
        exact ⟨G4, h4, u14, q4⟩
  · have e : i = l.length := by omega
    subst e
    rw [List.drop_length] at q1
    exact .inl ⟨(so.at_ _ H1 G1 u1 h1 q1.1).2 (Nat.le_refl _), cr _ _ _ _ (u0.trans u1) h1 (.ref D) q1.2⟩
/-- the block's parts: the target, the tests, the element -/
structure BlkP (X : Cx) (E : EK) (scope : Scope) (vs : List Nat) (tg elt : Expr) (ifs : List Expr) (g : DG) (tt : DT) (te : DE) : Prop where
  g : ∃ g0 : TG, CT vs g0 ∧ (∀ v σ H Q, upG (kt X E) noE g v σ H Q → g0 v σ H Q) ∧ ∀ (s : Shared) (H : Hp) (C : Addr) (cl : List (Str × Addr)) (fp : List Addr), PG (X.blk s H scope (compEnvC scope cl C X.env) fp) tg g0
  t : ∀ (s : Shared) (H : Hp) (C : Addr) (cl : List (Str × Addr)) (fp : List Addr), PDTs (X.blk s H scope (compEnvC scope cl C X.env) fp) E ifs tt
  e : ∀ (s : Shared) (H : Hp) (C : Addr) (cl : List (Str × Addr)) (fp : List Addr), PD (X.blk s H scope (compEnvC scope cl C X.env) fp) (noE, E.2) elt te
theorem pd_lc {elt tg iter : Expr} {ifs : List Expr} {scope : Scope} {own : List (Str × Nat)} {di : DI} {tt : DT} {te : DE} (hc : X.calm = true) (hN : X.N.Nodup) (hi : PDI X E tg iter di) (ok : BlkOk X.N X.env.scope scope own)
    (B : BlkP X E scope (own.map (·.2)) tg elt ifs g tt te) (hs : ∀ x, foldedSetIterable iter X.env x = pure x := by intro _; rfl) : PD X E (.ListComp elt [⟨tg, iter, ifs, 0⟩] scope pos) (dLc di g tt te (own.map (·.2))) := by
  obtain ⟨g0, c0, l0, p0⟩ := B.g
  exact ⟨imE (pe_lc hc hN hi.pi ok p0 (fun s H C cl fp => (B.t s H C cl fp).ts) (fun s H C cl fp => (B.e s H C cl fp).pe) hs) fun _ _ _ => up_lc c0 l0⟩
theorem pds_setLc {i : Nat} {y : Str} {py spos : Pos} {elt tg iter : Expr} {ifs : List Expr} {scope : Scope} {own : List (Str × Nat)} {di : DI} {tt : DT} {te : DE} (hc : X.calm = true) (hN : X.N.Nodup) (hy : X.N[i]? = some y) (hyl : X.env.scope.names.lookup y = some .local)
    (hsw : swapsWith (.ListComp elt [⟨tg, iter, ifs, 0⟩] scope pos) (some (.Name y py)) spos.line X.env = pure true) (hi : PDI X E tg iter di) (ok : BlkOk X.N X.env.scope scope own)
    (B : BlkP X E scope (own.map (·.2)) tg elt ifs g tt te) (hs : ∀ x, foldedSetIterable iter X.env x = pure x := by intro _; rfl) : PDS X E (.Assign [.Name y py] (.ListComp elt [⟨tg, iter, ifs, 0⟩] scope pos) spos) (sAsg (dLc di g tt te (own.map (·.2))) (gN i)) := by
  obtain ⟨g0, c0, l0, p0⟩ := B.g
  refine ⟨imS (ps_setLc (te := up (kt X E) noE te) (tt := upT (kt X E) noE tt) hc hN hy hyl hsw hi.pi ok p0 (fun s H C cl fp => (B.t s H C cl fp).ts) (fun s H C cl fp => (B.e s H C cl fp).pe) hs) fun Dn σ H ⟨δ, G, DD, sr, hr, h, cn, ct, cb, cc, cx⟩ => ?_⟩
  exact up_lc c0 l0 ⟨δ, G, _, DD.ex, sr, hr, h, fun v H1 d G1 u1 h1 r1 q1 => cn _ _ _ _ u1 ((sr.up u1).set r1) h1 q1, cx⟩
end
end Cc
/-! ### what the operators do with data -/
namespace Cc
open PySem PySem.Spec PyProof.Rows L2
/-- a two-place operation on data -/
def OD (X : Cx) (f : Value → Value → Sem Value) (r2 : D2) : Prop := ∃ r : R2, OpR X f r ∧ ∀ T, Lift2 (X.K, T) r r2
def IxD (X : Cx) (r2 : D2) : Prop := ∃ r : R2, IxR X r ∧ ∀ T, Lift2 (X.K, T) r r2
def CD (X : Cx) (f : Value) (r2 : DC) : Prop := ∃ r, CallR X f r ∧ ∀ T, LiftC (X.K, T) r r2
section
variable {X : Cx} {E : EK} {a b c e : Expr} {es : List Expr} {pos : Pos} {da db dc : DE} {dl : DA} {r2 s2 : D2}
theorem pd_bin {op : Operator} (h : OD X (binaryOp op) r2) (ha : PD X E a da) (hb : PD X E b db) : PD X E (.BinOp a op b pos) (dOp r2 da db) := by
  obtain ⟨r, ho, l⟩ := h
  exact pd_op ho l ha hb
theorem pd_cp {op : CmpOp} (h : OD X (compareOp op) r2) (ha : PD X E a da) (hb : PD X E b db) (hm : behindInMarks op b = false := by first | exact nomark _ (by decide) (by decide) | rfl) : PD X E (.Compare a [op] [b] pos) (dOp r2 da db) := by
  obtain ⟨r, ho, l⟩ := h
  exact pd_cmp ho l ha hb hm
theorem pdt_cp {op : CmpOp} (h : OD X (compareOp op) r2) (ha : PD X E a da) (hb : PD X E b db) (hm : behindInMarks op b = false := by first | exact nomark _ (by decide) (by decide) | rfl) : PDT X E (.Compare a [op] [b] pos) (dTest (dOp r2 da db)) := by
  obtain ⟨r, ho, l⟩ := h
  exact pdt_cmp ho l ha hb hm
theorem pd_cp2 {op op' : CmpOp} (h : OD X (compareOp op) r2) (h' : OD X (compareOp op') s2) (ha : PD X E a da) (hb : PD X E b db) (hc : PD X E c dc) (hm : lastMarks [op, op'] [b, c] = false := by with_unfolding_all rfl) : PD X E (.Compare a [op, op'] [b, c] pos) (dChain r2 s2 da db dc) := by
  obtain ⟨r, ho, l⟩ := h
  obtain ⟨r', ho', l'⟩ := h'
  exact pd_chain ho l ho' l' ha hb hc hm
theorem pdt_cp2 {op op' : CmpOp} (h : OD X (compareOp op) r2) (h' : OD X (compareOp op') s2) (ha : PD X E a da) (hb : PD X E b db) (hc : PD X E c dc) (hm : lastMarks [op, op'] [b, c] = false := by with_unfolding_all rfl) : PDT X E (.Compare a [op, op'] [b, c] pos) (dTest (dChain r2 s2 da db dc)) := by
  obtain ⟨r, ho, l⟩ := h
  obtain ⟨r', ho', l'⟩ := h'
  exact pdt_chain ho l ho' l' ha hb hc hm
theorem pd_sub (h : IxD X r2) (ha : PD X E a da) (hb : PD X E b db) (hs : PlainIx b := by intro _ _; rfl) : PD X E (.Subscript a b pos) (dOp r2 da db) := by
  obtain ⟨r, ho, l⟩ := h
  exact pd_ix ho l ha hb hs
theorem pd_blt {id : String} {x : Str} {p : Pos} {r2 : DC} (h : CD X (.builtin id) r2) (hm : X.mg x = none) (hv : bootBuiltins x = some (.builtin id)) (ha : PDA X E (e :: es) dl) (hg : Gl X x := by rfl) (hn : x ≠ "__name__" := by decide) (hdb : (x == ("__debug__" : Str)) = false := by decide)
    (he : starEach (e :: es) X.env = (false, eval e X.env) :: starEach es X.env := by rfl) (hpl : (backTo pos (starEach es X.env)).any (·.1) = false := by rfl) : PD X E (.Call (.Name x p) (e :: es) [] pos) (dCB r2 dl) := by
  obtain ⟨r, ho, l⟩ := h
  exact pd_callB ho l hg hm hv ha hn hdb he hpl
theorem pd_btt {T : String} {x : Str} {p : Pos} {r2 : DC} (h : CD X (.type T) r2) (hm : X.mg x = none) (hv : bootBuiltins x = some (.type T)) (ha : PDA X E (e :: es) dl) (hg : Gl X x := by rfl) (hn : x ≠ "__name__" := by decide) (hdb : (x == ("__debug__" : Str)) = false := by decide)
    (he : starEach (e :: es) X.env = (false, eval e X.env) :: starEach es X.env := by rfl) (hpl : (backTo pos (starEach es X.env)).any (·.1) = false := by rfl) : PD X E (.Call (.Name x p) (e :: es) [] pos) (dCB r2 dl) := by
  obtain ⟨r, ho, l⟩ := h
  exact pd_callTy ho l hg hm hv ha hn hdb he hpl
end
/-! operators -/
theorem Lift2.or {K : KT} {r s : R2} {r2 s2 : D2} (h : Lift2 K r r2) (h' : Lift2 K s s2) : Lift2 K (fun x y H Q => r x y H Q ∨ s x y H Q) (fun x y G R => r2 x y G R ∨ s2 x y G R) := fun x y H d e G R Q a b c q cr => by
  rcases q with q | q
  · exact .inl (h x y H d e G R Q a b c q cr)
  · exact .inr (h' x y H d e G R Q a b c q cr)
theorem Lift2.imp {K : KT} {r : R2} {r2 s2 : D2} (h : Lift2 K r r2) (k : ∀ d e G R, s2 d e G R → r2 d e G R) : Lift2 K r s2 := fun x y H d e G R Q a b c q cr => h x y H d e G R Q a b c (k _ _ _ _ q) cr
section
variable {X : Cx}
def dAdd : D2 := fun x y G R => match x, y with
  | .int i, .int j => R (.int (i + j)) G
  | .str s, .str t => s.length + t.length ≤ sizeLine ∧ R (.str (s ++ t)) G
  | .ref p, .ref q => ∃ l m, G p = some (.lst l) ∧ G q = some (.lst m) ∧ l.length + m.length ≤ sizeLine ∧ ∀ n, G n = none → R (.ref n) (updD G n (.lst (l ++ m)))
  | x, y => match x.tl, y.tl with
    | some l, some m => l.length + m.length ≤ sizeLine ∧ ((l = [] → R y G) ∧ (l ≠ [] → m = [] → R x G) ∧ (l ≠ [] → m ≠ [] → R (.tup (l ++ m)) G))
    | _, _ => False
theorem tup_cat {K : KT} {H : Hp} {x y : V} {d e : D} {l m : List D} {G : DH} {R : DK} {Q : VK} (hr : HRel K G H) (rx : Dv K H x d) (ry : Dv K H y e) (e1 : d.tl = some l) (e2 : e.tl = some m) (z : l.length + m.length ≤ sizeLine)
    (q : (l = [] → R e G) ∧ (l ≠ [] → m = [] → R d G) ∧ (l ≠ [] → m ≠ [] → R (.tup (l ++ m)) G)) (cr : CloR K H Q R) : rCatA K.1 x y H Q := by
  obtain ⟨a, xs, rfl, ha, ra⟩ := rx.sqT e1
  obtain ⟨b, ys, rfl, hb, rb⟩ := ry.sqT e2
  have nl : xs = [] ↔ l = [] := by rw [← List.length_eq_zero_iff, ← List.length_eq_zero_iff, ra.length]
  have nm : ys = [] ↔ m = [] := by rw [← List.length_eq_zero_iff, ← List.length_eq_zero_iff, rb.length]
  refine ⟨a, b, xs, ys, rfl, rfl, ha, hb, by rw [ra.length, rb.length]; exact z, fun h => cr _ _ _ _ (Up.refl H) hr ry (q.1 (nl.mp h)), fun h h' => cr _ _ _ _ (Up.refl H) hr rx (q.2.1 (fun z => h (nl.mpr z)) (nm.mp h')), fun h h' p hp => ?_⟩
  exact cr _ _ _ _ (Up.new hp) (hr.new0 hp) (.tup (SqT.of upd_same) ((ra.append rb).up (Up.new hp))) (q.2.2 (fun z => h (nl.mpr z)) (fun z => h' (nm.mpr z)))
theorem od_add : OD X (binaryOp .Add) dAdd := by
  refine ⟨_, op_add.or (op_add_str.or (op_cat.or op_catA)), fun T x y H d e G R Q hr rx ry q cr => ?_⟩
  unfold dAdd at q
  split at q
  · cases rx
    cases ry
    exact .inl ⟨_, _, rfl, rfl, cr _ _ _ _ (Up.refl H) hr (.int _) q⟩
  · cases rx
    cases ry
    exact .inr (.inl ⟨_, _, rfl, rfl, q.1, cr _ _ _ _ (Up.refl H) hr (.str _) q.2⟩)
  · cases rx
    cases ry
    obtain ⟨l, m, e1, e2, z, q⟩ := q
    obtain ⟨xs, a1, a2⟩ := hr _ _ e1
    obtain ⟨ys, b1, b2⟩ := hr _ _ e2
    exact .inr (.inr (.inl ⟨_, _, xs, ys, rfl, rfl, a1, b1, by rw [a2.length, b2.length]; exact z, fun p hp => cr _ _ _ _ (Up.new hp) (hr.new (c := .lst (l ++ m)) hp ⟨_, upd_same, (a2.append b2).up (Up.new hp)⟩) (.ref p) (q p (hr.none hp))⟩))
  · split at q
    · rename_i l m e1 e2
      exact .inr (.inr (.inr (tup_cat hr rx ry e1 e2 q.1 q.2 cr)))
    · exact False.elim q
def dSub : D2 := fun x y G R => match x, y with
  | .int i, .int j => R (.int (i - j)) G
  | _, _ => False
theorem lift_I {K : KT} {C : Int → Int → Prop} {g : Int → Int → V} {g2 : Int → Int → D} (hg : ∀ i j H, Dv K H (g i j) (g2 i j)) : Lift2 K (rI C g) (fun x y G R => match x, y with
  | .int i, .int j => C i j ∧ R (g2 i j) G
  | _, _ => False) := fun x y H d e G R Q hr rx ry q cr => by
  dsimp only at q
  split at q
  · cases rx
    cases ry
    exact ⟨_, _, rfl, rfl, q.1, cr _ _ _ _ (Up.refl H) hr (hg _ _ H) q.2⟩
  · exact False.elim q
theorem lift_I0 {K : KT} {g : Int → Int → V} {g2 : Int → Int → D} (hg : ∀ i j H, Dv K H (g i j) (g2 i j)) : Lift2 K (rI0 g) (fun x y G R => match x, y with
  | .int i, .int j => R (g2 i j) G
  | _, _ => False) := fun x y H d e G R Q hr rx ry q cr => by
  dsimp only at q
  split at q
  · cases rx
    cases ry
    exact ⟨_, _, rfl, rfl, cr _ _ _ _ (Up.refl H) hr (hg _ _ H) q⟩
  · exact False.elim q
theorem od_sub : OD X (binaryOp .Sub) dSub := ⟨_, op_sub, fun _ => lift_I0 fun _ _ _ => .int _⟩
def dMul : D2 := fun x y G R => match x, y with
  | .int i, .int j => CMul i j ∧ R (.int (i * j)) G
  | .ref p, .int k => ∃ l, G p = some (.lst l) ∧ -(2 ^ 63) ≤ k ∧ k < 2 ^ 63 ∧ l.length * k.toNat ≤ sizeLine ∧ ∀ n, G n = none → R (.ref n) (updD G n (.lst (List.replicate k.toNat l).flatten))
  | _, _ => False
theorem DvL.rep {K : KT} {H : Hp} {v : List V} {d : List D} (h : DvL K H v d) : ∀ k : Nat, DvL K H (List.replicate k v).flatten (List.replicate k d).flatten
  | 0 => .nil
  | k + 1 => by rw [List.replicate_succ, List.replicate_succ, List.flatten_cons, List.flatten_cons]; exact h.append (DvL.rep h k)
theorem od_mul : OD X (binaryOp .Mult) dMul := by
  refine ⟨_, op_mul.or op_rep, fun T x y H d e G R Q hr rx ry q cr => ?_⟩
  unfold dMul at q
  split at q
  · cases rx
    cases ry
    exact .inl ⟨_, _, rfl, rfl, q.1, cr _ _ _ _ (Up.refl H) hr (.int _) q.2⟩
  · cases rx
    cases ry
    obtain ⟨l, e1, h1, h2, z, q⟩ := q
    obtain ⟨xs, a1, a2⟩ := hr _ _ e1
    exact .inr ⟨_, _, xs, rfl, rfl, a1, h1, h2, by rw [a2.length]; exact z, fun p hp => cr _ _ _ _ (Up.new hp) (hr.new (c := .lst _) hp ⟨_, upd_same, (a2.rep _).up (Up.new hp)⟩) (.ref p) (q p (hr.none hp))⟩
  · exact False.elim q
def dFdiv : D2 := fun x y G R => match x, y with
  | .int i, .int j => CDiv i j ∧ R (.int (i / j)) G
  | _, _ => False
theorem od_fdiv : OD X (binaryOp .FloorDiv) dFdiv := ⟨_, op_fdiv, fun _ => lift_I fun _ _ _ => .int _⟩
def dMod : D2 := fun x y G R => match x, y with
  | .int i, .int j => 0 < j ∧ R (.int (i % j)) G
  | _, _ => False
theorem od_mod : OD X (binaryOp .Mod) dMod := ⟨_, op_mod, fun _ => lift_I fun _ _ _ => .int _⟩
def dPow : D2 := fun x y G R => match x, y with
  | .int i, .int j => CPow i j ∧ R (.int (i ^ j.toNat)) G
  | _, _ => False
theorem od_pow : OD X (binaryOp .Pow) dPow := ⟨_, op_pow, fun _ => lift_I fun _ _ _ => .int _⟩
def dLt : D2 := fun x y G R => match x, y with
  | .int i, .int j => R (.bl (decide (i < j))) G
  | _, _ => False
theorem od_lt : OD X (compareOp .Lt) dLt := ⟨_, op_lt, fun _ => lift_I0 fun _ _ _ => .bl _⟩
def dLe : D2 := fun x y G R => match x, y with
  | .int i, .int j => R (.bl (decide (i ≤ j))) G
  | _, _ => False
theorem od_le : OD X (compareOp .LtE) dLe := ⟨_, op_le, fun _ => lift_I0 fun _ _ _ => .bl _⟩
def dGt : D2 := fun x y G R => match x, y with
  | .int i, .int j => R (.bl (decide (j < i))) G
  | _, _ => False
theorem od_gt : OD X (compareOp .Gt) dGt := ⟨_, op_gt, fun _ => lift_I0 fun _ _ _ => .bl _⟩
def dGe : D2 := fun x y G R => match x, y with
  | .int i, .int j => R (.bl (decide (j ≤ i))) G
  | _, _ => False
theorem od_ge : OD X (compareOp .GtE) dGe := ⟨_, op_ge, fun _ => lift_I0 fun _ _ _ => .bl _⟩
/-! is None -/
def D.isN : D → Bool
  | .non => true
  | _ => false
theorem Dv.isN {K : KT} {H : Hp} {v : V} {d : D} (h : Dv K H v d) : decide (v = V.non) = d.isN := by cases h <;> simp [D.isN]
def dIsN : D2 := fun x y G R => match y with
  | .non => R (.bl x.isN) G
  | _ => False
theorem od_isN : OD X (compareOp .Is) dIsN := ⟨_, op_isN, fun T x y H d e G R Q hr rx ry q cr => by
  unfold dIsN at q
  split at q
  · cases ry
    refine ⟨rfl, cr _ _ _ _ (Up.refl H) hr (.bl _) ?_⟩
    rw [rx.isN]; exact q
  · exact False.elim q⟩
def dNotN : D2 := fun x y G R => match y with
  | .non => R (.bl (!x.isN)) G
  | _ => False
theorem od_notN : OD X (compareOp .IsNot) dNotN := ⟨_, op_notN, fun T x y H d e G R Q hr rx ry q cr => by
  unfold dNotN at q
  split at q
  · cases ry
    refine ⟨rfl, cr _ _ _ _ (Up.refl H) hr (.bl _) ?_⟩
    rw [rx.isN]; exact q
  · exact False.elim q⟩
/-! == : what reads as data -/
mutual
inductive Rdd (G : DH) : D → PyData → Prop
  | non : Rdd G .non .none
  | bl (b : Bool) : Rdd G (.bl b) (.bool b)
  | int (i : Int) : Rdd G (.int i) (.int i)
  | str (x : Str) : Rdd G (.str x) (.str x)
  | tup {d : D} {l : List D} {ts : List PyData} : d.tl = some l → RddL G l ts → Rdd G d (.tuple ts)
  | rol {l : List D} {ts : List PyData} : RddL G l ts → Rdd G (.rol l) (.list ts)
  | lst {a : Addr} {l : List D} {ts : List PyData} : G a = some (.lst l) → RddL G l ts → Rdd G (.ref a) (.list ts)
inductive RddL (G : DH) : List D → List PyData → Prop
  | nil : RddL G [] []
  | cons {d : D} {ds : List D} {t : PyData} {ts : List PyData} : Rdd G d t → RddL G ds ts → RddL G (d :: ds) (t :: ts)
end
mutual
theorem Rdd.dp {K : KT} {G : DH} {H : Hp} (hr : HRel K G H) : ∀ {d : D} {t : PyData} {v : V}, Rdd G d t → Dv K H v d → Dp K.1 H v t
  | _, _, _, .non, r => by cases r; exact .non
  | _, _, _, .bl b, r => by cases r; exact .bl b
  | _, _, _, .int i, r => by cases r; exact .int i
  | _, _, _, .str x, r => by cases r; exact .str x
  | _, _, _, .tup e s, r => by
    obtain ⟨a, xs, rfl, hq, ra⟩ := r.sqT e
    exact .tup hq (RddL.dp hr s ra)
  | _, _, _, .rol s, r => by
    cases r with
    | rol hq ra => exact .lst hq.sqL (RddL.dp hr s ra)
  | _, _, _, .lst e s, r => by
    cases r
    obtain ⟨xs, e1, ra⟩ := hr _ _ e
    exact .lst (SqL.of e1) (RddL.dp hr s ra)
theorem RddL.dp {K : KT} {G : DH} {H : Hp} (hr : HRel K G H) : ∀ {d : List D} {t : List PyData} {v : List V}, RddL G d t → DvL K H v d → DpAll K.1 H v t
  | _, _, _, .nil, r => by cases r; exact .nil
  | _, _, _, .cons h s, r => by
    cases r with
    | cons r1 r2 => exact .cons (Rdd.dp hr h r1) (RddL.dp hr s r2)
end
/-- == of two values that read as data -/
def dEqG (x y : D) (G : DH) (R : Bool → Prop) : Prop := ∃ t u, Rdd G x t ∧ Rdd G y u ∧ SeqAt.shaped t = true ∧ SeqAt.shaped u = true ∧ R (PyData.eqv t u)
def dEq : D2 := fun x y G R => match x, y with
  | .int i, .int j => R (.bl (decide (i = j))) G
  | .str s, .str t => R (.bl (decide (s = t))) G
  | .bl b, .bl c => R (.bl (decide (b = c))) G
  | x, y => dEqG x y G fun k => R (.bl k) G
def dNe : D2 := fun x y G R => match x, y with
  | .int i, .int j => R (.bl (!decide (i = j))) G
  | .str s, .str t => R (.bl (!decide (s = t))) G
  | .bl b, .bl c => R (.bl (!decide (b = c))) G
  | x, y => dEqG x y G fun k => R (.bl (!k)) G
theorem dec_i {i j : Int} : decide (V.int i = V.int j) = decide (i = j) := decide_eq_decide.mpr ⟨fun h => V.int.inj h, fun h => congrArg _ h⟩
theorem dec_s {i j : Str} : decide (V.str i = V.str j) = decide (i = j) := decide_eq_decide.mpr ⟨fun h => V.str.inj h, fun h => congrArg _ h⟩
theorem dec_b {i j : Bool} : decide (V.bl i = V.bl j) = decide (i = j) := decide_eq_decide.mpr ⟨fun h => V.bl.inj h, fun h => congrArg _ h⟩
theorem od_eq (hu : X.A.units + 64 < cLine) : OD X (compareOp .Eq) dEq := ⟨_, op_eq.or (op_eqD hu), fun T x y H d e G R Q hr rx ry q cr => by
  unfold dEq at q
  split at q
  · cases rx
    cases ry
    refine .inl ⟨rfl, cr _ _ _ _ (Up.refl H) hr (.bl _) ?_⟩
    rw [dec_i]; exact q
  · cases rx
    cases ry
    refine .inl ⟨rfl, cr _ _ _ _ (Up.refl H) hr (.bl _) ?_⟩
    rw [dec_s]; exact q
  · cases rx
    cases ry
    refine .inl ⟨rfl, cr _ _ _ _ (Up.refl H) hr (.bl _) ?_⟩
    rw [dec_b]; exact q
  · obtain ⟨t, u, h1, h2, h3, h4, q⟩ := q
    exact .inr ⟨t, u, h1.dp hr rx, h2.dp hr ry, h3, h4, cr _ _ _ _ (Up.refl H) hr (.bl _) q⟩⟩
theorem od_ne (hu : X.A.units + 64 < cLine) : OD X (compareOp .NotEq) dNe := ⟨_, op_ne.or (op_neD hu), fun T x y H d e G R Q hr rx ry q cr => by
  unfold dNe at q
  split at q
  · cases rx
    cases ry
    refine .inl ⟨rfl, cr _ _ _ _ (Up.refl H) hr (.bl _) ?_⟩
    rw [dec_i]; exact q
  · cases rx
    cases ry
    refine .inl ⟨rfl, cr _ _ _ _ (Up.refl H) hr (.bl _) ?_⟩
    rw [dec_s]; exact q
  · cases rx
    cases ry
    refine .inl ⟨rfl, cr _ _ _ _ (Up.refl H) hr (.bl _) ?_⟩
    rw [dec_b]; exact q
  · obtain ⟨t, u, h1, h2, h3, h4, q⟩ := q
    exact .inr ⟨t, u, h1.dp hr rx, h2.dp hr ry, h3, h4, cr _ _ _ _ (Up.refl H) hr (.bl _) q⟩⟩
/-! subscripts -/
def D.ky : D → Option Key
  | .int i => some (.inl i)
  | .str s => some (.inr s)
  | _ => none
def lookK {κ : Type} [DecidableEq κ] (kvs : List (κ × D)) (k : κ) : Option D := (kvs.find? fun p => decide (p.1 = k)).map (·.2)
def itemOf (G : DH) (x y : D) : Option D := match x with
  | .str z => (match y with
    | .int i => if z.length ≤ sizeLine then (atI z.cps.toList i).map fun c => .str ⟨#[c]⟩ else none
    | _ => none)
  | .ref a => (match G a with
    | some (.lst l) => (match y with
      | .int i => atI l i
      | _ => none)
    | some (.dK kvs) => y.ky.bind (lookK kvs)
    | some (.dT kvs) => (match y with
      | .key ks => lookK kvs ks
      | _ => none)
    | _ => none)
  | .rol l => (match y with
    | .int i => atI l i
    | _ => none)
  | .tup l => (match y with
    | .int i => atI l i
    | _ => none)
  | .key ks => (match y with
    | .int i => atI (ks.map kD) i
    | _ => none)
  | .ptp l => (match y with
    | .int i => atI l i
    | _ => none)
  | _ => none
def dIx : D2 := fun x y G R => match itemOf G x y with
  | some d => R d G
  | none => False
theorem DvL.atI {K : KT} {H : Hp} {v : List V} {d : List D} {i : Int} {x : D} (r : DvL K H v d) (e : L2.atI d i = some x) : ∃ u, L2.atI v i = some u ∧ Dv K H u x := by
  unfold L2.atI at e ⊢
  rw [r.length]
  cases q : ixN d.length i with
  | none => rw [q] at e; cases e
  | some j =>
    rw [q] at e
    exact r.get (show d[j]? = some x from e)
theorem KVr.look {K : KT} {H : Hp} {κ : Type} [DecidableEq κ] {xs : List (κ × V)} {ys : List (κ × D)} {k : κ} : KVr K H xs ys → ∀ {d : D}, lookK ys k = some d → ∃ v, valV xs k = some v ∧ Dv K H v d := fun r => by
  induction r with
  | nil => intro d e; cases e
  | @cons p q l m h t ih =>
    intro d e
    unfold lookK at e
    rw [List.find?_cons] at e
    by_cases hk : q.1 = k
    · rw [decide_eq_true hk] at e
      cases e
      exact ⟨_, valV_pos (h.1.trans hk), h.2⟩
    · rw [decide_eq_false hk] at e
      obtain ⟨v, e1, e2⟩ := ih e
      exact ⟨v, by rw [valV_neg (fun z => hk (h.1 ▸ z))]; exact e1, e2⟩
theorem KVr.lookN {K : KT} {H : Hp} {κ : Type} [DecidableEq κ] {xs : List (κ × V)} {ys : List (κ × D)} {k : κ} : KVr K H xs ys → lookK ys k = none → valV xs k = none := fun r => by
  induction r with
  | nil => intro e; rfl
  | @cons p q l m h t ih =>
    intro e
    unfold lookK at e
    rw [List.find?_cons] at e
    by_cases hk : q.1 = k
    · rw [decide_eq_true hk] at e
      cases e
    · rw [decide_eq_false hk] at e
      rw [valV_neg (fun z => hk (h.1 ▸ z))]
      exact ih e
theorem ky_v {K : KT} {H : Hp} {v : V} {d : D} {k : Key} (h : Dv K H v d) (e : d.ky = some k) : v = kV k := by
  cases h <;> cases e <;> rfl
theorem ix_dict (hu : X.A.units + 1 < cLine) : IxR X (fun x y H Q => ∃ a v, x = .ref a ∧ DGet H a y (some v) ∧ Q v H) := by
  intro value slice pins s σ H x y v u Q I rx ry h hs
  obtain ⟨a, w', ex, g, q⟩ := h
  subst ex
  cases rx
  exact tail_any (dict_typeIs I g) PySem.F.slot_dict_getitem.lookup (d_getItem hu I g ry fun w2 s' I' r' => ⟨w', H, I', r', q⟩) hs
theorem ixd (hu : X.A.units + 1 < cLine) : IxD X dIx := ⟨_, ix_seq.or (ix_dict hu), fun T x y H d e G R Q hr rx ry q cr => by
  unfold dIx at q
  split at q
  · rename_i r er
    unfold itemOf at er
    split at er
    · cases rx
      split at er
      · cases ry
        split at er
        · rename_i z i hl
          rw [Option.map_eq_some_iff] at er
          obtain ⟨c, e1, e2⟩ := er
          subst e2
          exact .inl (.inr (.inr ⟨_, _, c, rfl, rfl, hl, e1, cr _ _ _ _ (Up.refl H) hr (.str _) q⟩))
        · cases er
      · cases er
    · cases rx
      split at er
      · rename_i a l ea
        split at er
        · cases ry
          obtain ⟨xs, e1, r1⟩ := hr _ _ ea
          obtain ⟨u, e2, r2⟩ := r1.atI er
          exact .inl (.inl ⟨_, xs, _, u, rfl, rfl, SqL.of e1, e2, cr _ _ _ _ (Up.refl H) hr r2 q⟩)
        · cases er
      · rename_i a kvs ea
        obtain ⟨k, e1, e2⟩ := Option.bind_eq_some_iff.mp er
        obtain ⟨ys, e3, r3⟩ := hr _ _ ea
        obtain ⟨u, e4, r4⟩ := r3.look e2
        rw [ky_v ry e1]
        refine .inr ⟨_, u, rfl, ?_, cr _ _ _ _ (Up.refl H) hr r4 q⟩
        rw [← e4]
        exact DGet.k e3
      · rename_i a kvs ea
        split at er
        · cases ry with
          | key eb =>
            obtain ⟨ys, e3, r3⟩ := hr _ _ ea
            obtain ⟨u, e4, r4⟩ := r3.look er
            refine .inr ⟨_, u, rfl, ?_, cr _ _ _ _ (Up.refl H) hr r4 q⟩
            rw [← e4]
            exact DGet.t e3 eb
        · cases er
      · cases er
    · split at er
      · cases ry
        cases rx with
        | rol hq r1 =>
          obtain ⟨u, e2, r2⟩ := r1.atI er
          exact .inl (.inl ⟨_, _, _, u, rfl, rfl, hq.sqL, e2, cr _ _ _ _ (Up.refl H) hr r2 q⟩)
      · cases er
    · split at er
      · cases ry
        cases rx with
        | tup hq r1 =>
          obtain ⟨u, e2, r2⟩ := r1.atI er
          exact .inl (.inr (.inl ⟨_, _, _, u, rfl, rfl, hq, e2, cr _ _ _ _ (Up.refl H) hr r2 q⟩))
      · cases er
    · split at er
      · cases ry
        cases rx with
        | key hq =>
          obtain ⟨u, e2, r2⟩ := (dvL_kD (K := (X.K, T)) (H := H) _).atI er
          exact .inl (.inr (.inl ⟨_, _, _, u, rfl, rfl, SqT.of hq, e2, cr _ _ _ _ (Up.refl H) hr r2 q⟩))
      · cases er
    · split at er
      · cases ry
        cases rx with
        | ptp hq r1 =>
          obtain ⟨o, hq, _⟩ := hq
          obtain ⟨u, e2, r2⟩ := r1.atI er
          exact .inl (.inr (.inl ⟨_, _, _, u, rfl, rfl, .inl (.inr ⟨o, hq⟩), e2, cr _ _ _ _ (Up.refl H) hr r2 q⟩))
      · cases er
    · cases er
  · exact False.elim q⟩
end
end Cc
/-! ### built-ins, methods of built-in types, stores -/
namespace Cc
open PySem PySem.Spec PyProof.Rows L2
/-! in, not in -/
def D.flat : D → Bool
  | .non => true
  | .bl _ => true
  | .int _ => true
  | .str _ => true
  | _ => false
def eqF : D → D → Bool
  | .non, .non => true
  | .bl a, .bl b => a == b
  | .bl a, .int b => (if a then 1 else 0) == b
  | .int a, .bl b => a == (if b then 1 else 0)
  | .int a, .int b => a == b
  | .str a, .str b => a == b
  | _, _ => false
def inF (x : D) (l : List D) : Bool := l.any fun y => eqF y x
section
variable {K : KT} {H : Hp}
theorem Dv.flat {v : V} {d : D} (h : Dv K H v d) (f : d.flat = true) : flatV v = true := by cases h <;> first | rfl | cases f
theorem Dv.eqF {v u : V} {d e : D} (h : Dv K H v d) (h' : Dv K H u e) (f : d.flat = true) (f' : e.flat = true) : eqV v u = Cc.eqF d e := by
  cases h <;> first | cases f; done | (cases h' <;> first | rfl | cases f')
theorem DvL.flat : ∀ {v : List V} {d : List D}, DvL K H v d → d.all D.flat = true → v.all flatV = true
  | _, _, .nil, _ => rfl
  | _, _, .cons h r, f => by
    rw [List.all_cons, Bool.and_eq_true] at f ⊢
    exact ⟨h.flat f.1, DvL.flat r f.2⟩
theorem DvL.inF {u : V} {e : D} (h' : Dv K H u e) (f' : e.flat = true) : ∀ {v : List V} {d : List D}, DvL K H v d → d.all D.flat = true → inV u v = Cc.inF e d
  | _, _, .nil, _ => rfl
  | _, _, .cons h r, f => by
    rw [List.all_cons, Bool.and_eq_true] at f
    have ih := DvL.inF h' f' r f.2
    unfold inV Cc.inF at ih ⊢
    rw [List.any_cons, List.any_cons, h.eqF h' f.1 f', ih]
end
/-- what y holds, as a sequence -/
def seqOf (G : DH) (y : D) : Option (List D) := match y with
  | .ref a => (match G a with
    | some (.lst l) => some l
    | _ => none)
  | .rol l => some l
  | y => y.tl
theorem seqOf_sq {K : KT} {G : DH} {H : Hp} {v : V} {y : D} {l : List D} (hr : HRel K G H) (r : Dv K H v y) (e : seqOf G y = some l) : ∃ p xs, v = .ref p ∧ (SqL K.1 H p xs ∨ SqT K.1 H p xs) ∧ DvL K H xs l := by
  unfold seqOf at e
  split at e
  · cases r
    split at e
    · rename_i a l' ea
      cases e
      obtain ⟨xs, h1, h2⟩ := hr _ _ ea
      exact ⟨_, xs, rfl, .inl (SqL.of h1), h2⟩
    · cases e
  · cases e
    cases r with
    | rol hq h2 => exact ⟨_, _, rfl, .inl hq.sqL, h2⟩
  · obtain ⟨a, xs, h1, h2, h3⟩ := r.sqT e
    exact ⟨a, xs, h1, .inr h2, h3⟩
/-- the answer of x in y -/
def inOf (G : DH) (x y : D) : Option Bool := match y with
  | .str z => (match x with
    | .str c => if c.cps.size = 1 then some (decide (c.cps.toList.headD 0 ∈ z.cps.toList)) else none
    | _ => none)
  | .ref a => (match G a with
    | some (.lst l) => if x.flat && l.all D.flat then some (inF x l) else none
    | some (.dK kvs) => x.ky.map fun k => (lookK kvs k).isSome
    | some (.dT kvs) => (match x with
      | .key ks => some (lookK kvs ks).isSome
      | _ => none)
    | _ => none)
  | y => (match seqOf G y with
    | some l => if x.flat && l.all D.flat then some (inF x l) else none
    | none => none)
def dIn : D2 := fun x y G R => match inOf G x y with
  | some b => R (.bl b) G
  | none => False
def dNotIn : D2 := fun x y G R => match inOf G x y with
  | some b => R (.bl (!b)) G
  | none => False
theorem str1 {c : Str} (h : c.cps.size = 1) : c = ⟨#[c.cps.toList.headD 0]⟩ := by
  obtain ⟨⟨l⟩⟩ := c
  match l, h with
  | [x], _ => rfl
theorem KVr.lookS {K : KT} {H : Hp} {κ : Type} [DecidableEq κ] {xs : List (κ × V)} {ys : List (κ × D)} {k : κ} (r : KVr K H xs ys) : (valV xs k).isSome = (lookK ys k).isSome := by
  cases e : lookK ys k with
  | none =>
    rw [r.lookN e]
    rfl
  | some d =>
    obtain ⟨v, h, _⟩ := r.look e
    rw [h]
    rfl
section
variable {X : Cx}
theorem in_cases (hu : X.A.units + 1 < cLine) (neg : Bool) : ∃ r : R2, OpR X (compareOp (if neg then .NotIn else .In)) r ∧ ∀ (T : List (Addr × Str)) x y H d e G b Q, HRel (X.K, T) G H → Dv (X.K, T) H x d → Dv (X.K, T) H y e → inOf G d e = some b → Q (.bl (if neg then !b else b)) H → r x y H Q := by
  have dict : OpR X (compareOp (if neg then .NotIn else .In)) (fun x y H Q => ∃ a o, y = .ref a ∧ DGet H a x o ∧ Q (.bl (if neg then !o.isSome else o.isSome)) H) := by
    intro pins s σ H x y v u Q I rx ry h
    obtain ⟨a, o, ey, g, q⟩ := h
    subst ey
    cases ry
    cases neg with
    | false => exact d_in hu I g rx fun s' I' => ⟨.bl _, H, I', rfl, q⟩
    | true => exact d_notIn hu I g rx fun s' I' => ⟨.bl _, H, I', rfl, q⟩
  have sq : OpR X (compareOp (if neg then .NotIn else .In)) (rIn X.K neg) := by
    cases neg with
    | false => exact op_in_seq
    | true => exact op_notIn_seq
  have st : OpR X (compareOp (if neg then .NotIn else .In)) (fun x y H Q => ∃ (c : Nat) (z : Str), x = .str ⟨#[c]⟩ ∧ y = .str z ∧ Q (.bl (if neg then !decide (c ∈ z.cps.toList) else decide (c ∈ z.cps.toList))) H) := by
    cases neg with
    | false => exact op_in_sign
    | true => exact op_notIn_sign
  refine ⟨_, sq.or (st.or dict), fun T x y H d e G b Q hr rx ry q h => ?_⟩
  unfold inOf at q
  split at q
  · cases ry
    split at q
    · cases rx
      split at q
      · rename_i c hc
        cases q
        refine .inr (.inl ⟨_, _, congrArg V.str (str1 hc), rfl, h⟩)
      · cases q
    · cases q
  · cases ry
    split at q
    · rename_i a l ea
      split at q
      · rename_i hf
        cases q
        rw [Bool.and_eq_true] at hf
        obtain ⟨xs, h1, h2⟩ := hr _ _ ea
        refine .inl ⟨_, xs, rfl, .inl (SqL.of h1), rx.flat hf.1, h2.flat hf.2, ?_⟩
        rw [h2.inF rx hf.1 hf.2]
        exact h
      · cases q
    · rename_i a kvs ea
      rw [Option.map_eq_some_iff] at q
      obtain ⟨k, e1, e2⟩ := q
      obtain ⟨ys, h1, h2⟩ := hr _ _ ea
      rw [ky_v rx e1]
      refine .inr (.inr ⟨_, _, rfl, DGet.k h1, ?_⟩)
      rw [h2.lookS, e2]
      exact h
    · rename_i a kvs ea
      split at q
      · cases rx with
        | key eb =>
          cases q
          obtain ⟨ys, h1, h2⟩ := hr _ _ ea
          refine .inr (.inr ⟨_, _, rfl, DGet.t h1 eb, ?_⟩)
          rw [h2.lookS]
          exact h
      · cases q
    · cases q
  · split at q
    · rename_i l el
      split at q
      · rename_i hf
        cases q
        rw [Bool.and_eq_true] at hf
        obtain ⟨p, xs, e1, e2, h2⟩ := seqOf_sq hr ry el
        refine .inl ⟨p, xs, e1, e2, rx.flat hf.1, h2.flat hf.2, ?_⟩
        rw [h2.inF rx hf.1 hf.2]
        exact h
      · cases q
    · cases q
theorem od_in (hu : X.A.units + 1 < cLine) : OD X (compareOp .In) dIn := by
  obtain ⟨r, h1, h2⟩ := in_cases (X := X) hu false
  refine ⟨r, h1, fun T x y H d e G R Q hr rx ry q cr => ?_⟩
  unfold dIn at q
  split at q
  · rename_i b eb
    exact h2 T x y H d e G b Q hr rx ry eb (cr _ _ _ _ (Up.refl H) hr (.bl _) q)
  · exact False.elim q
theorem od_notIn (hu : X.A.units + 1 < cLine) : OD X (compareOp .NotIn) dNotIn := by
  obtain ⟨r, h1, h2⟩ := in_cases (X := X) hu true
  refine ⟨r, h1, fun T x y H d e G R Q hr rx ry q cr => ?_⟩
  unfold dNotIn at q
  split at q
  · rename_i b eb
    exact h2 T x y H d e G b Q hr rx ry eb (cr _ _ _ _ (Up.refl H) hr (.bl _) q)
  · exact False.elim q
/-! built-ins -/
def lenOf (G : DH) (x : D) : Option Nat := match x with
  | .str z => if z.length ≤ sizeLine then some z.length else none
  | .ref a => (match G a with
    | some (.lst l) => some l.length
    | some (.dK l) => some l.length
    | _ => none)
  | x => (seqOf G x).map (·.length)
def dLen : DC := fun xs G R => match xs with
  | [x] => (match lenOf G x with
    | some n => R (.int n) G
    | none => False)
  | _ => False
theorem call_lenDK : CallR X (.builtin "len") (fun xs H Q => ∃ a kvs, xs = [V.ref a] ∧ H a = some (.dK kvs) ∧ Q (.int kvs.length) H) := by
  intro pins s σ H xs us Q I r h
  obtain ⟨a, kvs, rfl, e, q⟩ := h
  obtain ⟨u, rfl, ru⟩ := vals1 r
  cases ru
  exact d_len I (.inl e) fun t s' I' => ⟨.int _, H, I', ⟨t, rfl⟩, q⟩
theorem cd_len : CD X (.builtin "len") dLen := ⟨_, call_len.or call_lenDK, fun T x H d G R Q hr r q cr => by
  unfold dLen at q
  split at q
  · cases r with
    | cons r1 r2 =>
      cases r2
      split at q
      · rename_i x n e
        have q' := cr (.int n) H _ G (Up.refl H) hr (.int _) q
        unfold lenOf at e
        split at e
        · cases r1
          split at e
          · rename_i hz
            cases e
            exact .inl ⟨_, _, rfl, ⟨hz, rfl⟩, q'⟩
          · cases e
        · cases r1
          split at e
          · rename_i a l ea
            cases e
            obtain ⟨xs, h1, h2⟩ := hr _ _ ea
            exact .inl ⟨_, _, rfl, .inl ⟨xs, SqL.of h1, h2.length.symm⟩, q'⟩
          · rename_i a l ea
            cases e
            obtain ⟨xs, h1, h2⟩ := hr _ _ ea
            refine .inr ⟨_, xs, rfl, h1, ?_⟩
            rw [Paired.length h2]
            exact q'
          · cases e
        · rw [Option.map_eq_some_iff] at e
          obtain ⟨l, e1, e2⟩ := e
          subst e2
          obtain ⟨p, xs, e3, e4, h2⟩ := seqOf_sq hr r1 e1
          subst e3
          rcases e4 with e4 | e4
          · exact .inl ⟨_, _, rfl, .inl ⟨xs, e4, h2.length.symm⟩, q'⟩
          · exact .inl ⟨_, _, rfl, .inr ⟨xs, e4, h2.length.symm⟩, q'⟩
      · exact False.elim q
  · exact False.elim q⟩
/-- a value's type's name -/
def tyD (G : DH) : D → Option String
  | .non => some "NoneType"
  | .bl _ => some "bool"
  | .int _ => some "int"
  | .str _ => some "str"
  | .tup _ => some "tuple"
  | .key _ => some "tuple"
  | .rol _ => some "list"
  | .ref a => (match G a with
    | some (.lst _) => some "list"
    | some (.dK _) => some "dict"
    | some (.dT _) => some "dict"
    | _ => none)
  | .ty _ => none
  | .rod _ => none
  | .wol _ => none
  | .ptp _ => some "tuple"
def dIsi : DC := fun xs G R => match xs with
  | [x, .ty T] => (match tyD G x with
    | some t => (match kitB t T with
      | some b => R (.bl b) G
      | none => False)
    | none => False)
  | _ => False
theorem tyX_of {K : KT} {G : DH} {H : Hp} {v : V} {d : D} {t : String} (hr : HRel K G H) (r : Dv K H v d) (e : tyD G d = some t) : TyX K.1 H v (.type t) := by
  have tupT : ∀ {a : Addr} {xs : List V}, SqT K.1 H a xs → TyX K.1 H (.ref a) (.type "tuple") := fun {a xs} h => by
    rcases h with (h | ⟨o, h⟩) | ⟨o, its, n, h1, h2, h3⟩
    · exact .base (.tup h)
    · exact .fTuple h
    · exact .kTuple h1 h2
  cases r with
  | non => cases e; exact .base .non
  | bl b => cases e; exact .base (.bl b)
  | int i => cases e; exact .base (.int i)
  | str x => cases e; exact .base (.str x)
  | ty n => cases e
  | rod _ _ => cases e
  | wol _ _ => cases e
  | tup h _ => cases e; exact tupT h
  | ptp h _ => cases e; obtain ⟨o, h, _⟩ := h; exact tupT (.inl (.inr ⟨o, h⟩))
  | key h => cases e; exact tupT (SqT.of h)
  | rol h _ =>
    cases e
    obtain ⟨o, h⟩ := h
    exact .base (.frz h)
  | ref a =>
    unfold tyD at e
    dsimp only at e
    split at e
    · rename_i l ea
      cases e
      obtain ⟨xs, h1, _⟩ := hr _ _ ea
      exact .base (.lst h1)
    · rename_i l ea
      cases e
      obtain ⟨xs, h1, _⟩ := hr _ _ ea
      exact .base (.dK h1)
    · rename_i l ea
      cases e
      obtain ⟨xs, h1, _⟩ := hr _ _ ea
      exact .base (.dT h1)
    · cases e
theorem cd_isi : CD X (.builtin "isinstance") dIsi := ⟨_, call_isi, fun T x H d G R Q hr r q cr => by
  unfold dIsi at q
  split at q
  · cases r with
    | cons r1 r2 =>
      cases r2 with
      | cons r2 r3 =>
        cases r3
        cases r2
        split at q
        · rename_i t et
          split at q
          · rename_i b eb
            exact ⟨_, _, .type t, _, b, rfl, .ty _, tyX_of hr r1 et, kit_ty eb, cr _ _ _ _ (Up.refl H) hr (.bl _) q⟩
          · exact False.elim q
        · exact False.elim q
  · exact False.elim q⟩
def dAbs : DC := fun xs G R => match xs with
  | [.int i] => R (.int (if i < 0 then -i else i)) G
  | _ => False
theorem cd_abs : CD X (.builtin "abs") dAbs := ⟨_, call_abs, fun T x H d G R Q hr r q cr => by
  unfold dAbs at q
  split at q
  · cases r with
    | cons r1 r2 =>
      cases r2
      cases r1
      exact ⟨_, rfl, cr _ _ _ _ (Up.refl H) hr (.int _) q⟩
  · exact False.elim q⟩
def dMax2 : DC := fun xs G R => match xs with
  | [.int i, .int j] => R (.int (if j > i then j else i)) G
  | _ => False
theorem cd_max2 (hc : X.calm = true) : CD X (.builtin "max") dMax2 := ⟨_, call_max2 hc, fun T x H d G R Q hr r q cr => by
  unfold dMax2 at q
  split at q
  · cases r with
    | cons r1 r2 =>
      cases r2 with
      | cons r2 r3 =>
        cases r3
        cases r1
        cases r2
        exact ⟨_, _, rfl, cr _ _ _ _ (Up.refl H) hr (.int _) q⟩
  · exact False.elim q⟩
def dMin2 : DC := fun xs G R => match xs with
  | [.int i, .int j] => R (.int (if j < i then j else i)) G
  | _ => False
theorem cd_min2 (hc : X.calm = true) : CD X (.builtin "min") dMin2 := ⟨_, call_min2 hc, fun T x H d G R Q hr r q cr => by
  unfold dMin2 at q
  split at q
  · cases r with
    | cons r1 r2 =>
      cases r2 with
      | cons r2 r3 =>
        cases r3
        cases r1
        cases r2
        exact ⟨_, _, rfl, cr _ _ _ _ (Up.refl H) hr (.int _) q⟩
  · exact False.elim q⟩
def dIntC : DC := fun xs G R => match xs with
  | [.int i] => R (.int i) G
  | [.bl b] => R (.int (if b then 1 else 0)) G
  | _ => False
theorem cd_int : CD X (.type "int") dIntC := ⟨_, call_int1, fun T x H d G R Q hr r q cr => by
  unfold dIntC at q
  split at q
  · cases r with
    | cons r1 r2 =>
      cases r2
      cases r1
      exact .inl ⟨_, rfl, cr _ _ _ _ (Up.refl H) hr (.int _) q⟩
  · cases r with
    | cons r1 r2 =>
      cases r2
      cases r1
      exact .inr ⟨_, rfl, cr _ _ _ _ (Up.refl H) hr (.int _) q⟩
  · exact False.elim q⟩
/-- list(xs) -/
def dListC : DC := fun xs G R => match xs with
  | [x] => (match seqOf G x with
    | some l => ∀ p, G p = none → R (.ref p) (updD G p (.lst l))
    | none => False)
  | _ => False
theorem cd_list : CD X (.type "list") dListC := ⟨_, call_list_of, fun T x H d G R Q hr r q cr => by
  unfold dListC at q
  split at q
  · cases r with
    | cons r1 r2 =>
      cases r2
      split at q
      · rename_i l el
        obtain ⟨p, xs, e3, e4, h2⟩ := seqOf_sq hr r1 el
        subst e3
        exact ⟨p, xs, rfl, e4, fun n hn => cr _ _ _ _ (Up.new hn) (hr.new (c := .lst l) hn ⟨xs, upd_same, h2.up (Up.new hn)⟩) (.ref n) (q n (hr.none hn))⟩
      · exact False.elim q
  · exact False.elim q⟩
/-- tuple(xs) -/
def dTupC : DC := fun xs G R => match xs with
  | [.tup l] => R (.tup l) G
  | [.key l] => R (.key l) G
  | [x] => (match seqOf G x with
    | some l => R (.tup l) G
    | none => False)
  | _ => False
theorem cd_tup : CD X (.type "tuple") dTupC := ⟨_, call_tuple_of, fun T x H d G R Q hr r q cr => by
  unfold dTupC at q
  split at q
  · cases r with
    | cons r1 r2 =>
      cases r2
      cases r1 with
      | tup h r => exact ⟨_, _, rfl, .inr ⟨h, cr _ _ _ _ (Up.refl H) hr (.tup h r) q⟩⟩
  · cases r with
    | cons r1 r2 =>
      cases r2
      cases r1 with
      | key h => exact ⟨_, _, rfl, .inr ⟨SqT.of h, cr _ _ _ _ (Up.refl H) hr (.key h) q⟩⟩
  · cases r with
    | cons r1 r2 =>
      cases r2
      split at q
      · rename_i l el
        obtain ⟨p, xs, e3, e4, h2⟩ := seqOf_sq hr r1 el
        subst e3
        rcases e4 with e4 | e4
        · exact ⟨_, xs, rfl, .inl ⟨e4, fun n hn => cr _ _ _ _ (Up.new hn) (hr.new0 hn) (.tup (SqT.of upd_same) (h2.up (Up.new hn))) q⟩⟩
        · exact ⟨_, xs, rfl, .inr ⟨e4, cr _ _ _ _ (Up.refl H) hr (.tup e4 h2) q⟩⟩
      · exact False.elim q
  · exact False.elim q⟩
/-- all(a list of truths) -/
def dAll : DC := fun xs G R => match xs with
  | [.ref a] => ∃ bs : List Bool, G a = some (.lst (bs.map D.bl)) ∧ R (.bl (bs.all id)) G
  | _ => False
theorem dvl_bls {K : KT} {H : Hp} : ∀ {bs : List Bool} {xs : List V}, DvL K H xs (bs.map D.bl) → xs = bs.map V.bl
  | [], _, .nil => rfl
  | b :: bs, _, .cons h r => by
    cases h
    rw [dvl_bls r]
    rfl
theorem cd_all (hc : X.calm = true) : CD X (.builtin "all") dAll := ⟨_, cr_all hc, fun T x H d G R Q hr r q cr => by
  unfold dAll at q
  split at q
  · cases r with
    | cons r1 r2 =>
      cases r2
      cases r1
      obtain ⟨bs, e, q⟩ := q
      obtain ⟨xs, h1, h2⟩ := hr _ _ e
      rw [dvl_bls h2] at h1
      exact ⟨_, bs, rfl, SqL.of h1, cr _ _ _ _ (Up.refl H) hr (.bl _) q⟩
  · exact False.elim q⟩
end
/-! methods of built-in types -/
abbrev DM := D → List D → DH → DK → Prop
def LiftM (K : KT) (r : V → List V → Hp → VK → Prop) (r2 : DM) : Prop := ∀ x xs H d ds G R Q, HRel K G H → Dv K H x d → DvL K H xs ds → r2 d ds G R → CloR K H Q R → r x xs H Q
def MD (X : Cx) (id : String) (r2 : DM) : Prop := ∃ r, MtR X id r ∧ ∀ T, LiftM (X.K, T) r r2
/-- the receiver is of that type -/
def tyR (G : DH) (T : String) (x : D) : Prop := match x with
  | .str _ => T = "str"
  | .ref a => (match G a with
    | some (.lst _) => T = "list"
    | some (.dK _) => T = "dict"
    | some (.dT _) => T = "dict"
    | _ => False)
  | _ => False
theorem tyR_v {K : KT} {G : DH} {H : Hp} {v : V} {d : D} {T : String} (hr : HRel K G H) (r : Dv K H v d) (e : tyR G T d) : tyV K.1 T v H := by
  unfold tyR at e
  split at e
  · cases r; exact e
  · cases r
    split at e
    · rename_i l ea
      obtain ⟨xs, h1, _⟩ := hr _ _ ea
      exact .inl ⟨e, xs, SqL.of h1⟩
    · rename_i l ea
      obtain ⟨xs, h1, _⟩ := hr _ _ ea
      exact .inr (.inr (.inl ⟨e, .inl ⟨xs, h1⟩⟩))
    · rename_i l ea
      obtain ⟨xs, h1, _⟩ := hr _ _ ea
      exact .inr (.inr (.inl ⟨e, .inr ⟨xs, h1⟩⟩))
    · exact False.elim e
  · exact False.elim e
def dBM (T : String) (r2 : DM) (da : DE) (dl : DA) : DE := fun δ G R EX => da δ G (fun x G1 => tyR G1 T x ∧ dl δ G1 (fun xs G2 => r2 x xs G2 R) EX) EX
section
variable {X : Cx} {E : EK} {o e : Expr} {es : List Expr} {da : DE} {dl : DA} {name : Str} {apos cpos : Pos} {T id : String} {r2 : DM}
theorem pd_bm (pa : PlainAttrs T) (slot : Slot T name id) (hty : typeOf (.builtin id) = pure (.type "method_descriptor")) (hm : MD X id r2) (ho : PD X E o da) (ha : PDA X E (e :: es) dl)
    (hbase : attributeBase o name X.env (eval o X.env) = eval o X.env := by rfl)
    (hfew : ((backTo cpos (starEach (e :: es) X.env)).all (fun x => !x.1) && (backToKw cpos (keywordEach [] X.env)).all (fun x => x.1.isSome)
      && decide ((e :: es).length + ([] : List Keyword).length + (if ([] : List Keyword).isEmpty then 0 else 1) < 30)) = true := by rfl)
    (hline : (apos.endLine == cpos.line) = true := by rfl) (hs : starEach (e :: es) X.env = (false, eval e X.env) :: starEach es X.env := by rfl) (hplain : (backTo cpos (starEach es X.env)).any (·.1) = false := by rfl) :
    PD X E (.Call (.Attribute o name apos) (e :: es) [] cpos) (dBM T r2 da dl) := by
  obtain ⟨r, hr, l⟩ := hm
  exact ⟨imE (pe_bm pa slot hty hr ho.pe ha.pa hbase hfew hline hs hplain) fun σ H Q ⟨δ, G, R, EX, sr, hr, h, cr, cx⟩ => ⟨δ, G, _, EX, sr, hr, h, fun x H1 d G1 u1 h1 r1 q1 => ⟨tyR_v h1 r1 q1.1, δ, G1, _, EX, sr.up u1, h1, q1.2, fun xs H2 ds G2 u2 h2 r2 q2 =>
    l _ x xs H2 d ds G2 R Q h2 (r1.up u2) r2 q2 (cr.up (u1.trans u2)), cx.up u1⟩, cx⟩⟩
theorem pd_bm0 (pa : PlainAttrs T) (slot : Slot T name id) (hty : typeOf (.builtin id) = pure (.type "method_descriptor")) (hm : MD X id r2) (ho : PD X E o da)
    (hbase : attributeBase o name X.env (eval o X.env) = eval o X.env := by rfl) (hline : (apos.endLine == cpos.line) = true := by rfl) : PD X E (.Call (.Attribute o name apos) [] [] cpos) (dBM T r2 da dNil) := by
  obtain ⟨r, hr, l⟩ := hm
  exact ⟨imE (pe_bm0 pa slot hty hr ho.pe hbase hline) fun σ H Q ⟨δ, G, R, EX, sr, hr, h, cr, cx⟩ => ⟨δ, G, _, EX, sr, hr, h, fun x H1 d G1 u1 h1 r1 q1 => ⟨tyR_v h1 r1 q1.1, l _ x [] H1 d [] G1 R Q h1 r1 .nil q1.2 (cr.up u1)⟩, cx⟩⟩
def mAppend : DM := fun x xs G R => match x, xs with
  | .ref a, [y] => ∃ l, G a = some (.lst l) ∧ l.length < sizeLine ∧ R .non (updD G a (.lst (l ++ [y])))
  | _, _ => False
theorem md_append : MD X "list.append" mAppend := ⟨_, mt_append, fun T x xs H d ds G R Q hr r rs q cr => by
  unfold mAppend at q
  split at q
  · cases r
    cases rs with
    | cons r1 r2 =>
      cases r2
      obtain ⟨l, e, hl, q⟩ := q
      obtain ⟨ys, h1, h2⟩ := hr _ _ e
      have u : ∀ o, Up H (upd H _ o) := fun o => Up.put h1 trivial
      exact ⟨_, ys, _, rfl, rfl, h1, by rw [h2.length]; exact hl, cr _ _ _ _ (u _) (hr.put (c := .lst _) h1 trivial ⟨_, upd_same, (h2.up (u _)).append (.cons (r1.up (u _)) .nil)⟩) .non q⟩
  · exact False.elim q⟩
def mExtend : DM := fun x xs G R => match x, xs with
  | .ref a, [.ref b] => ∃ l m, G a = some (.lst l) ∧ G b = some (.lst m) ∧ l.length + m.length ≤ sizeLine ∧ R .non (updD G a (.lst (l ++ m)))
  | _, _ => False
theorem md_extend : MD X "list.extend" mExtend := ⟨_, mt_extend, fun T x xs H d ds G R Q hr r rs q cr => by
  unfold mExtend at q
  split at q
  · cases r
    cases rs with
    | cons r1 r2 =>
      cases r2
      cases r1
      obtain ⟨l, m, e, e', hl, q⟩ := q
      obtain ⟨ys, h1, h2⟩ := hr _ _ e
      obtain ⟨zs, g1, g2⟩ := hr _ _ e'
      have u : ∀ o, Up H (upd H _ o) := fun o => Up.put h1 trivial
      exact ⟨_, _, ys, zs, rfl, rfl, h1, g1, by rw [h2.length, g2.length]; exact hl, cr _ _ _ _ (u _) (hr.put (c := .lst _) h1 trivial ⟨_, upd_same, (h2.append g2).up (u _)⟩) .non q⟩
  · exact False.elim q⟩
def mPopAt : DM := fun x xs G R => match x, xs with
  | .ref a, [.int i] => ∃ l k y, G a = some (.lst l) ∧ -(2 ^ 63) ≤ i ∧ i < 2 ^ 63 ∧ seqIndex? i l.length = some k ∧ l[k]? = some y ∧ R y (updD G a (.lst (l.eraseIdx k)))
  | _, _ => False
theorem md_popAt : MD X "list.pop" mPopAt := ⟨_, mt_popAt, fun T x xs H d ds G R Q hr r rs q cr => by
  unfold mPopAt at q
  split at q
  · cases r
    cases rs with
    | cons r1 r2 =>
      cases r2
      cases r1
      obtain ⟨l, k, y, e, a1, a2, a3, a4, q⟩ := q
      obtain ⟨ys, h1, h2⟩ := hr _ _ e
      obtain ⟨z, b1, b2⟩ := h2.get a4
      have u : ∀ o, Up H (upd H _ o) := fun o => Up.put h1 trivial
      exact ⟨_, ys, _, k, z, rfl, rfl, h1, a1, a2, by rw [h2.length]; exact a3, b1, cr _ _ _ _ (u _) (hr.put (c := .lst _) h1 trivial ⟨_, upd_same, (h2.eraseIdx k).up (u _)⟩) (b2.up (u _)) q⟩
  · exact False.elim q⟩
def mPop : DM := fun x xs G R => match x, xs with
  | .ref a, [] => ∃ l y, G a = some (.lst l) ∧ l[l.length - 1]? = some y ∧ R y (updD G a (.lst l.dropLast))
  | _, _ => False
theorem md_pop : MD X "list.pop" mPop := ⟨_, mt_pop, fun T x xs H d ds G R Q hr r rs q cr => by
  unfold mPop at q
  split at q
  · cases r
    cases rs
    obtain ⟨l, y, e, a4, q⟩ := q
    obtain ⟨ys, h1, h2⟩ := hr _ _ e
    obtain ⟨z, b1, b2⟩ := h2.get a4
    have u : ∀ o, Up H (upd H _ o) := fun o => Up.put h1 trivial
    exact ⟨_, ys, z, rfl, rfl, h1, by rw [h2.length]; exact b1, cr _ _ _ _ (u _) (hr.put (c := .lst _) h1 trivial ⟨_, upd_same, h2.dropLast.up (u _)⟩) (b2.up (u _)) q⟩
  · exact False.elim q⟩
def mClear : DM := fun x xs G R => match x, xs with
  | .ref a, [] => (∃ l, G a = some (.lst l)) ∧ R .non (updD G a (.lst []))
  | _, _ => False
theorem md_clear : MD X "list.clear" mClear := ⟨_, mt_clear, fun T x xs H d ds G R Q hr r rs q cr => by
  unfold mClear at q
  split at q
  · cases r
    cases rs
    obtain ⟨⟨l, e⟩, q⟩ := q
    obtain ⟨ys, h1, h2⟩ := hr _ _ e
    exact ⟨_, ys, rfl, rfl, h1, cr _ _ _ _ (Up.put h1 trivial) (hr.put (c := .lst []) h1 trivial ⟨_, upd_same, .nil⟩) .non q⟩
  · exact False.elim q⟩
end
/-! stores by subscript -/
def setF (G : DH) (o i v : D) (R : DH → Prop) : Prop := match o with
  | .ref a => (match G a with
    | some (.lst l) => (match i with
      | .int k => ∃ j, ixN l.length k = some j ∧ R (updD G a (.lst (l.set j v)))
      | _ => False)
    | _ => False)
  | _ => False
def dSetL : DSet := fun o i v G R => setF G o i v R
section
variable {X : Cx}
theorem set_listD : PSet X rSetL ∧ ∀ T, LiftSet (X.K, T) rSetL dSetL := ⟨set_list, fun T o i v H d e f G R Q hr ro ri rv q k => by
  unfold dSetL setF at q
  split at q
  · cases ro
    split at q
    · rename_i a l ea
      split at q
      · cases ri
        obtain ⟨j, hj, q⟩ := q
        obtain ⟨xs, h1, h2⟩ := hr _ _ ea
        have u : ∀ o, Up H (upd H _ o) := fun o => Up.put h1 trivial
        exact ⟨_, xs, _, j, rfl, rfl, h1, by rw [h2.length]; exact hj, k _ _ (u _) (hr.put (c := .lst _) h1 trivial ⟨_, upd_same, (DvL.set rv j h2).up (u _)⟩) q⟩
      · exact False.elim q
    · exact False.elim q
  · exact False.elim q⟩
end
/-! slices -/
abbrev DO := DS → DH → (Option Int → DH → Prop) → DX → Prop
def CloO (K : KT) (H : Hp) (Q : Option Int → Hp → Prop) (R : Option Int → DH → Prop) : Prop := ∀ b H' G', Up H H' → HRel K G' H' → R b G' → Q b H'
def upO (K : KT) (E : XK) (de : DO) : TO := fun σ H Q => ∃ δ G R EX, SRel K H σ δ ∧ HRel K G H ∧ de δ G R EX ∧ CloO K H Q R ∧ CloX K H E EX
structure PDO (X : Cx) (E : EK) (e : Option Expr) (de : DO) : Prop where
  po : PO X e (upO (kt X E) E.1 de)
def oNo : DO := fun _ G R _ => R none G
def oSome (da : DE) : DO := fun δ G R EX => da δ G (fun x G1 => match x with
  | .int i => R (some i) G1
  | _ => False) EX
theorem imO {X : Cx} {e : Option Expr} {t u : TO} (h : PO X e t) (k : ∀ σ H Q, u σ H Q → t σ H Q) : PO X e u := ⟨fun pins s σ H Q I q => h.run pins s σ H Q I (k σ H Q q)⟩
def SlD (X : Cx) (r2 : D → Option Int → Option Int → DH → DK → Prop) : Prop := ∃ r, SlR X r ∧ ∀ (T : List (Addr × Str)) x lo hi H d G R Q, HRel (X.K, T) G H → Dv (X.K, T) H x d → r2 d lo hi G R → CloR (X.K, T) H Q R → r x lo hi H Q
def dSl (r2 : D → Option Int → Option Int → DH → DK → Prop) (da : DE) (dl dh : DO) : DE := fun δ G R EX => da δ G (fun x G1 => dl δ G1 (fun l G2 => dh δ G2 (fun h G3 => r2 x l h G3 R) EX) EX) EX
section
variable {X : Cx} {E : EK} {e : Expr} {lo hi : Option Expr} {de : DE} {dl dh : DO} {pos p2 : Pos} {r2 : D → Option Int → Option Int → DH → DK → Prop}
theorem pdo_none : PDO X E none oNo := ⟨imO po_none fun σ H Q ⟨δ, G, R, EX, sr, hr, h, cr, cx⟩ => cr _ _ _ (Up.refl H) hr h⟩
theorem pdo_some (h : PD X E e de) : PDO X E (some e) (oSome de) := ⟨imO (po_some h.pe) fun σ H Q ⟨δ, G, R, EX, sr, hr, h, cr, cx⟩ => ⟨δ, G, _, EX, sr, hr, h, fun x H1 d G1 u1 h1 r1 q1 => by
  cases r1 with
  | int i => exact ⟨i, rfl, cr _ _ _ u1 h1 q1⟩
  | _ => exact False.elim q1, cx⟩⟩
theorem pd_slice (hr : SlD X r2) (he : PD X E e de) (hl : PDO X E lo dl) (hu : PDO X E hi dh) : PD X E (.Subscript e (.Slice lo hi none p2) pos) (dSl r2 de dl dh) := by
  obtain ⟨r, h1, h2⟩ := hr
  exact ⟨imE (pe_slice h1 he.pe hl.po hu.po) fun σ H Q ⟨δ, G, R, EX, sr, hr, h, cr, cx⟩ => ⟨δ, G, _, EX, sr, hr, h, fun x H1 d G1 u1 h1 r1 q1 => ⟨δ, G1, _, EX, sr.up u1, h1, q1, fun l H2 G2 u2 h2' q2 => ⟨δ, G2, _, EX, sr.up (u1.trans u2), h2', q2, fun u H3 G3 u3 h3 q3 =>
    h2 _ x l u H3 d G3 R Q h3 (r1.up (u2.trans u3)) q3 (cr.up (u1.trans (u2.trans u3))), cx.up (u1.trans u2)⟩, cx.up u1⟩, cx⟩⟩
def cutD (xs : List D) (lo hi : Option Int) : List D := (xs.drop (HT.sIx xs.length 0 lo)).take (HT.sIx xs.length xs.length hi - HT.sIx xs.length 0 lo)
theorem DvL.cut {K : KT} {H : Hp} {v : List V} {d : List D} (h : DvL K H v d) (lo hi : Option Int) : DvL K H (cutV v lo hi) (cutD d lo hi) := by
  unfold cutV cutD
  rw [h.length]
  exact (h.drop _).take _
/-- a tuple's, a list's slice -/
def sSl : D → Option Int → Option Int → DH → DK → Prop := fun x lo hi G R => match x with
  | .ref a => ∃ l, G a = some (.lst l) ∧ ∀ p, G p = none → R (.ref p) (updD G p (.lst (cutD l lo hi)))
  | x => (match x.tl with
    | some l => (HT.sIx l.length 0 lo = 0 ∧ HT.sIx l.length l.length hi = l.length → R x G) ∧ (¬ (HT.sIx l.length 0 lo = 0 ∧ HT.sIx l.length l.length hi = l.length) → R (.tup (cutD l lo hi)) G)
    | none => False)
theorem sld : SlD X sSl := ⟨_, sl_list.or sl_tupA, fun T x lo hi H d G R Q hr r q cr => by
  unfold sSl at q
  split at q
  · cases r
    obtain ⟨l, e, q⟩ := q
    obtain ⟨xs, h1, h2⟩ := hr _ _ e
    exact .inl ⟨_, xs, rfl, SqL.of h1, fun p hp => cr _ _ _ _ (Up.new hp) (hr.new (c := .lst _) hp ⟨_, upd_same, (h2.cut lo hi).up (Up.new hp)⟩) (.ref p) (q p (hr.none hp))⟩
  · split at q
    · rename_i l el
      obtain ⟨a, xs, h1, h2, h3⟩ := r.sqT el
      refine .inr ⟨a, xs, h1, h2, fun hw => ?_, fun hw p hp => ?_⟩
      · rw [h3.length] at hw
        subst h1
        exact cr _ _ _ _ (Up.refl H) hr r (q.1 hw)
      · rw [h3.length] at hw
        exact cr _ _ _ _ (Up.new hp) (hr.new0 hp) (.tup (SqT.of upd_same) ((h3.cut lo hi).up (Up.new hp))) (q.2 hw)
    · exact False.elim q⟩
end
end Cc
/-! ### objects, dicts, defs -/
namespace Cc
open PySem PySem.Spec PyProof.Rows L2
/-! what a def promises -/
def startD (N : List Str) (ds : List D) : DS := ds.map some ++ List.replicate (N.length - ds.length) none
theorem srel_start {K : KT} {H : Hp} {N : List Str} : ∀ {vs : List V} {ds : List D}, DvL K H vs ds → SRel K H (L2.start N vs) (startD N ds) := fun {vs ds} r => by
  refine ⟨by unfold L2.start startD; simp [r.length], fun i d e => ?_⟩
  unfold startD at e
  unfold L2.start
  by_cases hi : i < ds.length
  · rw [List.getElem?_append_left (by rw [List.length_map]; exact hi), List.getElem?_map] at e
    rw [List.getElem?_append_left (by rw [List.length_map, r.length]; exact hi), List.getElem?_map]
    cases q : ds[i]? with
    | none => rw [q] at e; cases e
    | some d' =>
      rw [q] at e
      cases e
      obtain ⟨v, h1, h2⟩ := r.get q
      exact ⟨v, by rw [h1]; rfl, h2⟩
  · rw [List.getElem?_append_right (by rw [List.length_map]; omega), List.getElem?_replicate] at e
    split at e <;> cases e
abbrev endsD (R : DK) (EX : DX) : DEnds := { nx := fun _ G => R .non G, rt := R, ex := EX }
/-- the body of a def keeps a reading, wherever it is entered -/
def BodyD (P : Program) (w : World) (K : PySem.W.Frag) (T : List (Addr × Str)) (cv : Value → Prop) (mg : Str → Option Value) (base : Heap) (N : List Str) (qual : Str) (scope : Scope) (body : List Stmt) (k : Nat) (sb : DSt) : Prop :=
  ∀ (f : Addr) (cdv : Value) (A : Around) (outer : List Env) (s : Shared) (H : Hp) (E : XK), cv cdv → Room k (A.deeper (envOfC qual scope s.heap.objs.size f cdv)) → PDSs (cxOf (L2N.CX P w) P w K mg base N qual scope f cdv A outer s H E) (E, T) body sb
section
variable {P : Program} {w : World} {K : PySem.W.Frag} {T : List (Addr × Str)} {cv : Value → Prop} {mg : Str → Option Value} {base : Heap} {N ps : List Str} {x qual : Str} {params : Arguments} {body : List Stmt} {scope : Scope} {dvs : List V} {kws : List (Str × V)} {f : Addr} {fd : FuncData} {k : Nat} {sb : DSt} {sd : SpD}
theorem okD (F : FunD K x qual params body scope dvs kws f fd) (S : FnScope N ps scope) (hcv : cv fd.code) (len : ∀ ds G R EX, sd ds G R EX → ds.length = ps.length) (B : BodyD P w K T cv mg base N qual scope body k sb)
    (hp : ∀ ds G R EX, sd ds G R EX → sb (endsD R EX) (startD N ds) G) : FnOk P w K mg base (L2N.CX P w) (k + 1) f fd ps (upF (K, T) sd) := by
  obtain ⟨oc, od, dV, kV, doc, pm, an, cdv, ct, osl, rfl, lk, hcd, _, _⟩ := F.ex
  refine fn_of lk hcd S (fun vs H Q E ⟨ds, G, R, EX, dv, hr, h, cr, cx⟩ => dv.length.trans (len ds G R EX h)) fun A outer s H vs Q E hr ⟨ds, G, R, EX, dv, hG, h, cr, cx⟩ => ?_
  refine ⟨upS (K, T) E sb, (B f cdv A outer s H E hcv hr).ps, startD N ds, G, endsD R EX, srel_start dv, hG, hp ds G R EX h, fun σ' H' δ' G' u s2 h2 q => cr _ _ _ _ u h2 .non q, cr, fun _ _ _ _ _ _ _ q => q.elim, fun _ _ _ _ _ _ _ q => q.elim, cx⟩
theorem tkD {cdv : Value} {A : Around} {outer : List Env} {s : Shared} {H : Hp} {E : XK} : L2N.Takes (cxOf (L2N.CX P w) P w K mg base N qual scope f cdv A outer s H E) (fun cls d _ H => E cls d H) := L2N.takes_of rfl rfl rfl rfl
theorem psD {cdv : Value} {A : Around} {outer : List Env} {s : Shared} {H : Hp} {E : XK} : Passes (L2N.CX P w) (cxOf (L2N.CX P w) P w K mg base N qual scope f cdv A outer s H E) E := L2N.passes_call tkD fun _ _ _ _ h => h
theorem poD {cdv : Value} {A : Around} {outer : List Env} {s : Shared} {H : Hp} {E : XK} : PassesOwn (model P w) (cxOf (L2N.CX P w) P w K mg base N qual scope f cdv A outer s H E).A (cxOf (L2N.CX P w) P w K mg base N qual scope f cdv A outer s H E).env (cxOf (L2N.CX P w) P w K mg base N qual scope f cdv A outer s H E).xe := passes_of rfl
/-- a call that lets nothing out -/
theorem passN {X : Cx} : Passes (L2N.CX X.prog X.w) X (fun _ _ _ => False) := fun _ _ _ _ _ _ _ ⟨_, _, _, _, _, _, _, _, _, _, _, _, z⟩ => z.elim
/-- a weaker promise -/
theorem impD {K : KT} {Fr : PySem.W.Frag} {CX : CXT} {sd sd' : SpD} (F : FnOk P w Fr mg base CX k f fd ps (upF K sd)) (h : ∀ ds G R EX, sd' ds G R EX → sd ds G R EX) : FnOk P w Fr mg base CX k f fd ps (upF K sd') :=
  F.imp fun vs H Q E ⟨ds, G, R, EX, dv, hr, q, cr, cx⟩ => ⟨ds, G, R, EX, dv, hr, h _ _ _ _ q, cr, cx⟩
end
/-! fields -/
def fld (fs : List (Str × D)) (f : Str) : Option D := fs.lookup f
def putFD (f : Str) (v : D) : List (Str × D) → List (Str × D)
  | [] => [(f, v)]
  | p :: r => if p.1 = f then (p.1, v) :: r else p :: putFD f v r
theorem KVr.fld {K : KT} {H : Hp} {xs : List (Str × V)} {ys : List (Str × D)} {f : Str} : KVr K H xs ys → ∀ {d : D}, ys.lookup f = some d → ∃ v, xs.lookup f = some v ∧ Dv K H v d := fun r => by
  induction r with
  | nil => intro d e; cases e
  | @cons p q l m h t ih =>
    intro d e
    obtain ⟨p1, p2⟩ := p
    obtain ⟨q1, q2⟩ := q
    obtain ⟨h1, h2⟩ := h
    dsimp only at h1 h2
    subst h1
    rw [List.lookup_cons] at e ⊢
    cases hb : f == p1 with
    | true => rw [hb] at e; cases e; exact ⟨p2, rfl, h2⟩
    | false => rw [hb] at e; exact ih e
theorem KVr.fldN {K : KT} {H : Hp} {xs : List (Str × V)} {ys : List (Str × D)} {f : Str} : KVr K H xs ys → ys.lookup f = none → xs.lookup f = none := fun r => by
  induction r with
  | nil => intro e; rfl
  | @cons p q l m h t ih =>
    intro e
    obtain ⟨p1, p2⟩ := p
    obtain ⟨q1, q2⟩ := q
    obtain ⟨h1, h2⟩ := h
    dsimp only at h1 h2
    subst h1
    rw [List.lookup_cons] at e ⊢
    cases hb : f == p1 with
    | true => rw [hb] at e; cases e
    | false => rw [hb] at e; exact ih e
theorem KVr.putF {K : KT} {H : Hp} {xs : List (Str × V)} {ys : List (Str × D)} {f : Str} {v : V} {d : D} (hd : Dv K H v d) : KVr K H xs ys → KVr K H (L2.putF f v xs) (putFD f d ys) := fun r => by
  induction r with
  | nil => exact .cons ⟨rfl, hd⟩ .nil
  | @cons p q l m h t ih =>
    obtain ⟨p1, p2⟩ := p
    obtain ⟨q1, q2⟩ := q
    obtain ⟨h1, h2⟩ := h
    dsimp only at h1 h2
    subst h1
    unfold L2.putF putFD
    by_cases hb : p1 = f
    · rw [if_pos hb, if_pos hb]
      exact .cons ⟨by first | rfl | exact hb.symm | exact hb, hd⟩ t
    · rw [if_neg hb, if_neg hb]
      exact .cons ⟨rfl, h2⟩ ih
theorem KVr.len {K : KT} {H : Hp} {κ : Type} {xs : List (κ × V)} {ys : List (κ × D)} (r : KVr K H xs ys) : xs.length = ys.length := Paired.length r
/-- o.f, o of the class at Cl -/
def dFld (Cl : Addr) (f : Str) (da : DE) : DE := fun δ G R EX => da δ G (fun x G1 => match x with
  | .ref a => (match G1 a with
    | some (.ins c fs) => c = Cl ∧ (match fs.lookup f with
      | some d => R d G1
      | none => False)
    | _ => False)
  | _ => False) EX
section
variable {X : Cx} {E : EK} {a b c e o value : Expr} {es rest : List Expr} {pos pos' apos : Pos} {da db dc de : DE} {dA dB : DT} {dl : DA} {Cl : Addr} {f m x : Str}
theorem pd_fld (cl : Cls X.K Cl) (na : NoAttr X.K Cl f) (he : PD X E e da) (hb : attributeBase e f X.env (eval e X.env) = eval e X.env := by rfl) : PD X E (.Attribute e f pos) (dFld Cl f da) :=
  ⟨imE (pe_fld he.pe hb) fun σ H Q ⟨δ, G, R, EX, sr, hr, h, cr, cx⟩ => ⟨δ, G, _, EX, sr, hr, h, fun x H1 d G1 u1 h1 r1 q1 => by
    dsimp only at q1
    split at q1
    · cases r1
      split at q1
      · rename_i a c fs ea
        obtain ⟨hc, q1⟩ := q1
        subst hc
        split at q1
        · rename_i d ed
          obtain ⟨dx, ys, e1, e2⟩ := h1 _ _ ea
          obtain ⟨v, e3, e4⟩ := e2.fld ed
          exact ⟨_, _, dx, ys, v, rfl, e1, cl, na, e3, cr _ _ _ _ u1 h1 e4 q1⟩
        · exact False.elim q1
      · exact False.elim q1
    · exact False.elim q1, cx⟩⟩
/-- o.f = e -/
def sFldD (Cl : Addr) (f : Str) (da dv : DE) : DSt := fun D δ G => dv δ G (fun y G1 => da δ G1 (fun x G2 => match x with
  | .ref a => (match G2 a with
    | some (.ins c fs) => c = Cl ∧ fs.length < 1000 ∧ D.nx δ (updD G2 a (.ins c (putFD f y fs)))
    | _ => False)
  | _ => False) D.ex) D.ex
theorem pds_fld (cl : Cls X.K Cl) (na : NoAttr X.K Cl f) (ha : PD X E o da) (hv : PD X E value dc) (hs : swapsWith value (some (.Attribute o f pos')) pos.line X.env = pure false := by rfl) : PDS X E (.Assign [.Attribute o f pos'] value pos) (sFldD Cl f da dc) :=
  ⟨imS (ps_fld ha.pe hv.pe hs) fun Dn σ H ⟨δ, G, DD, sr, hr, h, cn, ct, cb, cc, cx⟩ => ⟨δ, G, _, DD.ex, sr, hr, h, fun y H1 d G1 u1 h1 r1 q1 => ⟨δ, G1, _, DD.ex, sr.up u1, h1, q1, fun x H2 d2 G2 u2 h2 r2 q2 => by
    dsimp only at q2
    split at q2
    · cases r2
      split at q2
      · rename_i a c fs ea
        obtain ⟨hc, hl, q2⟩ := q2
        subst hc
        obtain ⟨dx, ys, e1, e2⟩ := h2 _ _ ea
        have u : ∀ o, Up H2 (upd H2 _ o) := fun o => Up.put e1 trivial
        have u12 := u1.trans u2
        refine ⟨_, _, dx, ys, rfl, e1, cl, na, by rw [e2.len]; exact hl, ?_⟩
        exact cn _ _ _ _ (u12.trans (u _)) (sr.up (u12.trans (u _))) (h2.put (c := .ins _ (putFD f d fs)) e1 trivial ⟨dx, _, upd_same, KVr.putF (r1.up (u2.trans (u _))) (e2.up (u _))⟩) q2
      · exact False.elim q2
    · exact False.elim q2, cx.up u1⟩, cx⟩⟩
/-- o.m(..) -/
def dMeth (Cl : Addr) (m : Str) (sd : SpD) (da : DE) (dl : DA) : DE := fun δ G R EX => da δ G (fun x G1 => match x with
  | .ref a => (match G1 a with
    | some (.ins c fs) => c = Cl ∧ fs.lookup m = none ∧ dl δ G1 (fun xs G2 => sd (.ref a :: xs) G2 R EX) EX
    | _ => False)
  | _ => False) EX
theorem up_meth {sd : SpD} {σ : L2.St} {H : Hp} {Q : VK} : up (kt X E) E.1 (dMeth Cl m sd da dl) σ H Q → tMeth Cl m (upF (kt X E) sd) [] E.1 (up (kt X E) E.1 da) (upA (kt X E) E.1 dl) σ H Q := fun ⟨δ, G, R, EX, sr, hr, h, cr, cx⟩ =>
  ⟨δ, G, _, EX, sr, hr, h, fun x H1 d G1 u1 h1 r1 q1 => by
    dsimp only at q1
    split at q1
    · cases r1
      split at q1
      · rename_i a c fs ea
        obtain ⟨hc, hl, q1⟩ := q1
        subst hc
        obtain ⟨dx, ys, e1, e2⟩ := h1 _ _ ea
        refine ⟨_, dx, ys, rfl, e1, e2.fldN hl, δ, G1, _, EX, sr.up u1, h1, q1, fun vs H2 ds G2 u2 h2 r2 q2 => ?_, cx.up u1⟩
        show upF (kt X E) sd (_ :: (vs ++ [])) H2 Q E.1
        rw [List.append_nil]
        exact ⟨_, G2, R, EX, .cons (.ref _) r2, h2, q2, cr.up (u1.trans u2), cx.up (u1.trans u2)⟩
      · exact False.elim q1
    · exact False.elim q1, cx⟩
variable {CX : CXT} {k : Nat} {g : Addr} {fd : FuncData} {ps : List Str} {sd : SpD} {p : Pos}
theorem pd_meth {pl : Sem Bool} (he : PD X E o da) (cl : Cls X.K Cl) (hm : Meth X.K Cl m g) (F : FnOk X.prog X.w X.K X.mg X.base CX k g fd ps (upF (kt X E) sd)) (hr : Room k X.A) (hb : Binds X.K fd ps []) (hx : Passes CX X E.1) (ha : PDA X E (e :: es) dl)
    (hst : starEach (e :: es) X.env = (false, eval e X.env) :: starEach es X.env := by rfl) (hpl : (backTo pos (starEach es X.env)).any (·.1) = false := by rfl)
    (ht : eval (.Call (.Attribute o m apos) (e :: es) [] pos) X.env = (do
      let ov ← eval o X.env
      standAt apos.atName
      let (f, first) ← holding [ov] (getMethod ov m pl)
      callWith pos f first (backTo pos (starEach (e :: es) X.env)) (backToKw pos (keywordEach [] X.env))) := by rfl) :
    PD X E (.Call (.Attribute o m apos) (e :: es) [] pos) (dMeth Cl m sd da dl) := ⟨imE (pe_meth he.pe cl hm F hr hb .nil hx ha.pa hst hpl ht) fun _ _ _ => up_meth⟩
theorem pd_meth0 {pl : Sem Bool} (he : PD X E o da) (cl : Cls X.K Cl) (hm : Meth X.K Cl m g) (F : FnOk X.prog X.w X.K X.mg X.base CX k g fd ps (upF (kt X E) sd)) (hr : Room k X.A) (hb : Binds X.K fd ps []) (hx : Passes CX X E.1)
    (ht : eval (.Call (.Attribute o m apos) [] [] pos) X.env = (do
      let ov ← eval o X.env
      standAt apos.atName
      let (f, first) ← holding [ov] (getMethod ov m pl)
      callWith pos f first (backTo pos (starEach [] X.env)) (backToKw pos (keywordEach [] X.env))) := by rfl) :
    PD X E (.Call (.Attribute o m apos) [] [] pos) (dMeth Cl m sd da dNil) := ⟨imE (pe_meth0 he.pe cl hm F hr hb .nil hx ht) fun σ H Q h => up_meth (dl := dNil) (by
      obtain ⟨δ, G, R, EX, sr, hr, h, cr, cx⟩ := h
      exact ⟨δ, G, R, EX, sr, hr, h, cr, cx⟩) |> fun h => by
      obtain ⟨δ, G, R, EX, sr, hr, h, cr, cx⟩ := h
      refine ⟨δ, G, R, EX, sr, hr, h, fun v H' d G' u1 h1 r1 q1 => ?_, cx⟩
      obtain ⟨a, dx, fs, e1, e2, e3, δ2, G2, R2, EX2, s2, h2, q2, cr2, cx2⟩ := cr v H' d G' u1 h1 r1 q1
      exact ⟨a, dx, fs, e1, e2, e3, cr2 _ _ _ _ (Up.refl _) h2 .nil q2⟩⟩
/-- Cl(..) -/
def dMake (Cl : Addr) (sd : SpD) (dl : DA) : DE := fun δ G R EX => dl δ G (fun xs G1 => ∀ x, G1 x = none → sd (.ref x :: xs) (updD G1 x (.ins Cl [])) (fun d G2 => match d with
  | .non => R (.ref x) G2
  | _ => False) EX) EX
theorem up_make {sd : SpD} {σ : L2.St} {H : Hp} {Q : VK} : up (kt X E) E.1 (dMake Cl sd dl) σ H Q → tMake Cl (upF (kt X E) sd) [] E.1 (upA (kt X E) E.1 dl) σ H Q := fun ⟨δ, G, R, EX, sr, hr, h, cr, cx⟩ =>
  ⟨δ, G, _, EX, sr, hr, h, fun vs H1 ds G1 u1 h1 r1 q1 => fun x dx nx ndx nex => by
    have n2 : upd H1 dx (.own x) x = none := by rw [upd_ne (fun e => nex e.symm)]; exact nx
    have ua : Up H1 (upd H1 dx (.own x)) := Up.new ndx
    have ub : Up (upd H1 dx (.own x)) (upd (upd H1 dx (.own x)) x (.ins Cl dx [])) := Up.new n2
    have hG := (h1.new0 (o := .own x) ndx).new (c := .ins Cl []) (o := .ins Cl dx []) n2 ⟨dx, [], upd_same, .nil⟩
    show upF (kt X E) sd (.ref x :: (vs ++ [])) _ _ E.1
    rw [List.append_nil]
    refine ⟨_, _, _, EX, .cons (.ref x) (r1.up (ua.trans ub)), hG, q1 x (h1.none nx), fun v H2 d G2 u2 h2 r2 q2 => ?_, cx.up (u1.trans (ua.trans ub))⟩
    dsimp only at q2
    split at q2
    · cases r2
      exact ⟨rfl, cr _ _ _ _ (u1.trans (ua.trans (ub.trans u2))) h2 (.ref x) q2⟩
    · exact False.elim q2, cx⟩
theorem pd_make (M : Mk X.K Cl g) (F : FnOk X.prog X.w X.K X.mg X.base CX k g fd ps (upF (kt X E) sd)) (hr : Room (k + 1) X.A) (hm : X.mg x = some (.ref Cl)) (hb : Binds X.K fd ps []) (hx : Passes CX X E.1)
    (ha : PDA X E (e :: es) dl) (hg : Gl X x := by rfl) (hdb : (x == ("__debug__" : Str)) = false := by decide) (he : starEach (e :: es) X.env = (false, eval e X.env) :: starEach es X.env := by rfl) (hpl : (backTo pos (starEach es X.env)).any (·.1) = false := by rfl) :
    PD X E (.Call (.Name x p) (e :: es) [] pos) (dMake Cl sd dl) := ⟨imE (pe_make M F hr hg hm hb .nil hx ha.pa hdb he hpl) fun _ _ _ => up_make⟩
theorem pd_make0 (M : Mk X.K Cl g) (F : FnOk X.prog X.w X.K X.mg X.base CX k g fd ps (upF (kt X E) sd)) (hr : Room (k + 1) X.A) (hm : X.mg x = some (.ref Cl)) (hb : Binds X.K fd ps []) (hx : Passes CX X E.1)
    (hg : Gl X x := by rfl) (hdb : (x == ("__debug__" : Str)) = false := by decide) : PD X E (.Call (.Name x p) [] [] pos) (dMake Cl sd dNil) := ⟨imE (pe_make0 M F hr hg hm hb .nil hx hdb) fun σ H Q h => by
      obtain ⟨δ, G, R, EX, sr, hr, h, cr, cx⟩ := up_make h
      exact cr [] H [] _ (Up.refl H) hr .nil h⟩
end
/-! errors -/
/-- raise x('..'), x an own class over ValueError without its own making -/
structure ErrC (K : PySem.W.Frag) (mg : Str → Option Value) (x : Str) (C : Addr) : Prop where
  q : PySem.W.excIn K C [.type "ValueError", .type "Exception", .type "BaseException", .type "object"] "ValueError.__new__" = true
  g : mg x = some (.ref C)
  k : PySem.W.keepIn K (.ref C) = true
  b : PySem.W.subIn K (.ref C) (.type "BaseException") = some true
  t : PySem.W.typeIn K (.ref C) = some (.type "type")
def sRaise (C : Addr) : DSt := fun D _ G => D.ex (.ref C) none G
section
variable {X : Cx} {E : EK} {x m : Str} {C : Addr} {pos pos2 p p2 : Pos} {j : Nat}
theorem pds_raise (T : ErrC X.K X.mg x C) (tk : L2N.Takes X (fun cls d _ H => E.1 cls d H)) (hc : X.calm = true := by rfl) (hg : Gl X x := by rfl) (hdb : (x == ("__debug__" : Str)) = false := by decide) : PDS X E (.Raise (some (.Call (.Name x p) [.Constant (.str m) j p2] [] pos)) none pos2) (sRaise C) :=
  ⟨imS (L2N.ps_raise hc tk (L2N.pmk_own PySem.F.excBase_ValueError T.q T.g T.k (raises_own T.b T.t) hg hdb)) fun Dn σ H ⟨δ, G, DD, sr, hr, h, cn, ct, cb, cc, cx⟩ => cx _ _ _ _ (Up.refl H) hr h⟩
end
end Cc
/-! ### what the module's names stand for; blocks of comprehensions -/
namespace Cc
open PySem PySem.Spec PyProof.Rows L2
/-- a def of the module, by its name: its promise at a level -/
structure Fn (P : Program) (w : World) (K : KT) (mg : Str → Option Value) (base : Heap) (x : Str) (k : Nat) (ps : List Str) (sd : SpD) : Prop where
  ex : ∃ f fd, FnOk P w K.1 mg base (L2N.CX P w) k f fd ps (upF K sd) ∧ mg x = some (.ref f) ∧ PySem.W.keepIn K.1 (.ref f) = true ∧ Binds K.1 fd ps []
/-- a method -/
structure Mt (P : Program) (w : World) (K : KT) (mg : Str → Option Value) (base : Heap) (C : Addr) (m : Str) (k : Nat) (ps : List Str) (sd : SpD) : Prop where
  ex : ∃ f fd, FnOk P w K.1 mg base (L2N.CX P w) k f fd ps (upF K sd) ∧ Meth K.1 C m f ∧ Binds K.1 fd ps []
/-- a class that is called -/
structure Mr (P : Program) (w : World) (K : KT) (mg : Str → Option Value) (base : Heap) (x : Str) (C : Addr) (k : Nat) (ps : List Str) (sd : SpD) : Prop where
  ex : ∃ f fd, FnOk P w K.1 mg base (L2N.CX P w) k f fd ps (upF K sd) ∧ Mk K.1 C f ∧ mg x = some (.ref C) ∧ Binds K.1 fd ps []
section
variable {X : Cx} {E : EK} {a b c e o : Expr} {es : List Expr} {pos p apos : Pos} {da : DE} {dl : DA} {k j : Nat} {ps : List Str} {sd : SpD} {x m : Str} {Cl : Addr}
theorem pd_fn (F : Fn X.prog X.w (kt X E) X.mg X.base x k ps sd) (hr : Room j X.A) (hx : Passes (L2N.CX X.prog X.w) X E.1) (ha : PDA X E (e :: es) dl) (hk : k ≤ j := by decide) (hg : Gl X x := by rfl) (hdb : (x == ("__debug__" : Str)) = false := by decide)
    (he : starEach (e :: es) X.env = (false, eval e X.env) :: starEach es X.env := by rfl) (hpl : (backTo pos (starEach es X.env)).any (·.1) = false := by rfl) : PD X E (.Call (.Name x p) (e :: es) [] pos) (dCall sd dl) := by
  obtain ⟨f, fd, F, hm, kp, hb⟩ := F.ex
  exact pd_call F (hr.mono hk) hg hm kp hb hx ha hdb he hpl
theorem pd_fn0 (F : Fn X.prog X.w (kt X E) X.mg X.base x k ps sd) (hr : Room j X.A) (hx : Passes (L2N.CX X.prog X.w) X E.1) (hk : k ≤ j := by decide) (hg : Gl X x := by rfl) (hdb : (x == ("__debug__" : Str)) = false := by decide) : PD X E (.Call (.Name x p) [] [] pos) (dCall sd dNil) := by
  obtain ⟨f, fd, F, hm, kp, hb⟩ := F.ex
  exact pd_call0 F (hr.mono hk) hg hm kp hb hx hdb
theorem pd_mt {pl : Sem Bool} (cl : Cls X.K Cl) (F : Mt X.prog X.w (kt X E) X.mg X.base Cl m k ps sd) (hr : Room j X.A) (hx : Passes (L2N.CX X.prog X.w) X E.1) (he : PD X E o da) (ha : PDA X E (e :: es) dl) (hk : k ≤ j := by decide)
    (hst : starEach (e :: es) X.env = (false, eval e X.env) :: starEach es X.env := by rfl) (hpl : (backTo pos (starEach es X.env)).any (·.1) = false := by rfl)
    (ht : eval (.Call (.Attribute o m apos) (e :: es) [] pos) X.env = (do
      let ov ← eval o X.env
      standAt apos.atName
      let (f, first) ← holding [ov] (getMethod ov m pl)
      callWith pos f first (backTo pos (starEach (e :: es) X.env)) (backToKw pos (keywordEach [] X.env))) := by rfl) :
    PD X E (.Call (.Attribute o m apos) (e :: es) [] pos) (dMeth Cl m sd da dl) := by
  obtain ⟨f, fd, F, hm, hb⟩ := F.ex
  exact pd_meth he cl hm F (hr.mono hk) hb hx ha hst hpl ht
theorem pd_mt0 {pl : Sem Bool} (cl : Cls X.K Cl) (F : Mt X.prog X.w (kt X E) X.mg X.base Cl m k ps sd) (hr : Room j X.A) (hx : Passes (L2N.CX X.prog X.w) X E.1) (he : PD X E o da) (hk : k ≤ j := by decide)
    (ht : eval (.Call (.Attribute o m apos) [] [] pos) X.env = (do
      let ov ← eval o X.env
      standAt apos.atName
      let (f, first) ← holding [ov] (getMethod ov m pl)
      callWith pos f first (backTo pos (starEach [] X.env)) (backToKw pos (keywordEach [] X.env))) := by rfl) :
    PD X E (.Call (.Attribute o m apos) [] [] pos) (dMeth Cl m sd da dNil) := by
  obtain ⟨f, fd, F, hm, hb⟩ := F.ex
  exact pd_meth0 he cl hm F (hr.mono hk) hb hx ht
theorem pd_mk (M : Mr X.prog X.w (kt X E) X.mg X.base x Cl k ps sd) (hr : Room j X.A) (hx : Passes (L2N.CX X.prog X.w) X E.1) (ha : PDA X E (e :: es) dl) (hk : k + 1 ≤ j := by decide) (hg : Gl X x := by rfl) (hdb : (x == ("__debug__" : Str)) = false := by decide)
    (he : starEach (e :: es) X.env = (false, eval e X.env) :: starEach es X.env := by rfl) (hpl : (backTo pos (starEach es X.env)).any (·.1) = false := by rfl) : PD X E (.Call (.Name x p) (e :: es) [] pos) (dMake Cl sd dl) := by
  obtain ⟨f, fd, F, M, hm, hb⟩ := M.ex
  exact pd_make M F (hr.mono hk) hm hb hx ha hg hdb he hpl
theorem pd_mk0 (M : Mr X.prog X.w (kt X E) X.mg X.base x Cl k ps sd) (hr : Room j X.A) (hx : Passes (L2N.CX X.prog X.w) X E.1) (hk : k + 1 ≤ j := by decide) (hg : Gl X x := by rfl) (hdb : (x == ("__debug__" : Str)) = false := by decide) : PD X E (.Call (.Name x p) [] [] pos) (dMake Cl sd dNil) := by
  obtain ⟨f, fd, F, M, hm, hb⟩ := M.ex
  exact pd_make0 M F (hr.mono hk) hm hb hx hg hdb
/-- a built-in class's name as a value -/
theorem pd_ty {n : String} (hm : X.mg x = none) (hv : bootBuiltins x = some (.type n)) (hg : Gl X x := by rfl) (hn : x ≠ "__name__" := by decide) (hd : (x == ("__debug__" : Str)) = false := by decide) : PD X E (.Name x pos) (dC (.ty n)) :=
  pd_c (pe_bltn (v := .ty n) hg hm hv rfl hn hd) fun _ => .ty _
def dNeg : D1 := fun x G R => match x with
  | .int i => R (.int (-i)) G
  | _ => False
theorem pd_neg (ha : PD X E a da) : PD X E (.UnaryOp .USub a pos) (dUn dNeg da) := pd_un un_neg (fun T x H d G R Q hr rx q cr => by
  unfold dNeg at q
  split at q
  · cases rx
    exact ⟨_, rfl, cr _ _ _ _ (Up.refl H) hr (.int _) q⟩
  · exact False.elim q) ha
end
/-! a comprehension's block -/
def gNames : List Nat → TGs
  | [] => gNil
  | i :: is => gCons (gName i) (gNames is)
def gsNames : List Nat → DGs
  | [] => gsNil
  | i :: is => gsCons (gN i) (gsNames is)
theorem cts_names {vs : List Nat} : ∀ {is : List Nat}, (∀ i ∈ is, i ∈ vs) → CTs vs (gNames is)
  | [], _ => fun v σ H Q h => ⟨h.1, rfl, h.2⟩
  | i :: is, hm => fun v σ H Q h => by
    obtain ⟨v1, r, e1, h1⟩ := h
    refine ⟨v1, r, e1, ?_⟩
    have h1 : gNames is r (σ.set i (some v1)) H Q := h1
    show gNames is r (σ.set i (some v1)) H _
    have h3 := cts_names (fun j hj => hm j (List.mem_cons_of_mem _ hj)) _ _ _ _ h1
    rw [wipe_set (hm i List.mem_cons_self)] at h3
    exact h3
theorem up_gsNames {K : KT} : ∀ {is : List Nat} {v : List V} {σ : L2.St} {H : Hp} {Q : L2.St → Hp → Prop}, upGs K noE (gsNames is) v σ H Q → gNames is v σ H Q
  | [], v, σ, H, Q, ⟨d, δ, G, R, EX, dv, sr, hr, h, cr, cx⟩ => by
    obtain ⟨rfl, h⟩ := h
    cases dv
    exact ⟨rfl, cr _ _ _ _ (Up.refl H) sr hr h⟩
  | i :: is, v, σ, H, Q, ⟨d, δ, G, R, EX, dv, sr, hr, h, cr, cx⟩ => by
    cases dv with
    | nil => exact False.elim h
    | cons r rr => exact ⟨_, _, rfl, up_gsNames ⟨_, _, G, R, EX, rr, sr.set r, hr, h, cr, cx⟩⟩
section
variable {X : Cx} {E : EK} {scope : Scope} {vs : List Nat} {x : Str} {p : Pos} {elt : Expr} {ifs es : List Expr} {tt : DT} {te : DE} {i k n : Nat} {is : List Nat}
theorem blk_name (hm : i ∈ vs) (hpg : ∀ (s : Shared) (H : Hp) (C : Addr) (cl : List (Str × Addr)) (fp : List Addr), PG (X.blk s H scope (compEnvC scope cl C X.env) fp) (.Name x p) (gName i))
    (ht : ∀ (s : Shared) (H : Hp) (C : Addr) (cl : List (Str × Addr)) (fp : List Addr), PDTs (X.blk s H scope (compEnvC scope cl C X.env) fp) E ifs tt)
    (he : ∀ (s : Shared) (H : Hp) (C : Addr) (cl : List (Str × Addr)) (fp : List Addr), PD (X.blk s H scope (compEnvC scope cl C X.env) fp) (noE, E.2) elt te) : BlkP X E scope vs (.Name x p) elt ifs (gN i) tt te :=
  ⟨⟨gName i, fun v σ H Q h => ⟨wipe_set hm, h⟩, fun v σ H Q ⟨d, δ, G, R, EX, dv, sr, hr, h, cr, cx⟩ => cr _ _ _ _ (Up.refl H) (sr.set dv) hr h, hpg⟩, ht, he⟩
theorem blk_tup (hm : ∀ i ∈ is, i ∈ vs) (hpg : ∀ (s : Shared) (H : Hp) (C : Addr) (cl : List (Str × Addr)) (fp : List Addr), PG (X.blk s H scope (compEnvC scope cl C X.env) fp) (.Tuple es k p) (gTup X.K n (gNames is)))
    (ht : ∀ (s : Shared) (H : Hp) (C : Addr) (cl : List (Str × Addr)) (fp : List Addr), PDTs (X.blk s H scope (compEnvC scope cl C X.env) fp) E ifs tt)
    (he : ∀ (s : Shared) (H : Hp) (C : Addr) (cl : List (Str × Addr)) (fp : List Addr), PD (X.blk s H scope (compEnvC scope cl C X.env) fp) (noE, E.2) elt te) : BlkP X E scope vs (.Tuple es k p) elt ifs (gT n (gsNames is)) tt te := by
  refine ⟨⟨gTup X.K n (gNames is), fun v σ H Q ⟨a, xs, e1, e2, e3, h⟩ => ⟨a, xs, e1, e2, e3, cts_names hm _ _ _ _ h⟩, fun v σ H Q ⟨d, δ, G, R, EX, dv, sr, hr, h, cr, cx⟩ => ?_, hpg⟩, ht, he⟩
  unfold gT at h
  split at h
  · rename_i l e
    obtain ⟨a, xs, rfl, hq, r⟩ := dv.sqT e
    exact ⟨_, _, rfl, hq, by rw [r.length]; exact h.1, up_gsNames ⟨_, δ, G, R, EX, r, sr, hr, h.2, cr, cx⟩⟩
  · exact False.elim h
end
end Cc
/-! ### sorting: of data, by a key that is a lambda -/
namespace Cc
open PySem PySem.Spec PyProof.Rows L2
open PySem.W (EachIs AllAlike Sortable dataLe KeyPure kla_obj kla_fn envX)
/-- a lambda of one parameter that captures nothing -/
structure Lam1 (scope : Scope) (x : Str) : Prop where
  kind : scope.kind = .function
  co : scope.isCoroutine = false
  gen : scope.isGenerator = false
  cell : ∀ y ∈ scope.names, y.2 ≠ .cell
  free : ∀ y ∈ scope.names, y.2 ≠ .free
  loc : scope.names.lookup x = some .local
def lam1B (scope : Scope) (x : Str) : Bool := decide (scope.kind = .function) && !scope.isCoroutine && !scope.isGenerator && (scope.names.all fun y => !decide (y.2 = .cell) && !decide (y.2 = .free)) && decide (scope.names.lookup x = some .local)
theorem lam1_by {scope : Scope} {x : Str} (h : lam1B scope x = true) : Lam1 scope x := by
  unfold lam1B at h
  simp only [Bool.and_eq_true, Bool.not_eq_true', decide_eq_true_eq, decide_eq_false_iff_not, List.all_eq_true] at h
  obtain ⟨⟨⟨⟨h1, h2⟩, h3⟩, h4⟩, h5⟩ := h
  exact ⟨h1, h2, h3, fun y hy => (h4 y hy).1, fun y hy => (h4 y hy).2, h5⟩
section
variable {prog : Program} {w : World} {A : Around} {s : Shared} {x q : Str} {params : Arguments} {body : Expr} {scope : Scope} {f c' : Addr} {pm ctv v : Value} {k : PyData}
theorem lam_key (L : Lam1 scope x) (hf : s.heap.get? f = some (kla_obj "<lambda>" q params body scope [] pm c' ctv)) (hc : s.heap.CodeRec (.ref c') q) (hroom : A.depth < recursionLimit) (hlim : s.heap.NoLimit)
    (hbind : bindArgs (kla_fn "<lambda>" q params body scope [] pm (.ref c') ctv) ⟨[v], []⟩ = pure [(x, v)])
    (hb : ∀ (h₁ : Heap) (tk : Nat), (∀ b o, s.heap.get? b = some o → h₁.get? b = some o) → h₁.Ns s.heap.objs.size (fun y => ([(x, v)] : List (Str × Value)).reverse.lookup y) →
      wpAny (model prog w) (A.deeper (envX q scope s.heap.objs.size f (.ref c') [])) (eval body (envX q scope s.heap.objs.size f (.ref c') [])) (KeyPure k { s with heap := h₁, toks := tk }) (fun _ _ => False) { s with heap := h₁, toks := tk }) :
    wpAny (model prog w) A (call (.ref f) [v]) (KeyPure k s) (fun _ _ => False) s := by
  refine wpAny_call (PySem.W.kla_callFunE hroom hf rfl L.co L.gen rfl hc ?_)
  rw [hbind]
  refine wpAny_pure (wpAny_newFunctionEnv L.cell (fun y hy => ?_) (fun h₁ hns hsb => ⟨hlim.fresh _ hsb, ?_⟩) L.kind)
  · have e : y = (x, v) := by simpa using hy
    subst e
    exact L.loc
  · have kp : ∀ b o, s.heap.get? b = some o → h₁.get? b = some o := fun b o e => hsb.extBut b o (Nat.ne_of_lt (Heap.lt_size e)) (Heap.get?_push_of_some _ e)
    show codeAny _ _ (.expr body (envX q scope s.heap.objs.size f (.ref c') [])) _ _
    refine PySem.W.kla_codeExpr (wpAny_mono (hb h₁ _ kp hns) (fun u s' hq => ?_) fun _ _ z => z.elim)
    obtain ⟨h', tk, e, k1, r⟩ := hq
    subst e
    exact ⟨h', tk, rfl, fun b o e => k1 b o (kp b o e), r⟩
variable {E : Value → Shared → Prop} {Q : Value → Shared → Prop} {L f' : Addr} {cd : Value}
theorem lam_name {p : Pos} (hk : scope.kind = .function) (hl : scope.names.lookup x = some .local) (hn : s.heap.Ns L (fun y => ([(x, v)] : List (Str × Value)).reverse.lookup y)) (hd : (x == ("__debug__" : Str)) = false) (h : Q v s) :
    wpAny (model prog w) A (eval (.Name x p) (envX q scope L f' cd [])) Q E s :=
  wpAny_Name (wpAny_loadName_local hk hl hn (by simp [List.lookup]) h) hd
/-- row[i] -/
theorem lam_ix {p1 p2 p3 : Pos} {i : Nat} {t : Addr} {its : Array Value} {n : Int} {tk : Tok} {jj} (hk : scope.kind = .function) (hl : scope.names.lookup x = some .local) (hn : s.heap.Ns L (fun y => ([(x, .ref t)] : List (Str × Value)).reverse.lookup y)) (hd : (x == ("__debug__" : Str)) = false)
    (ht : IsTup s.heap t its) (hi : its.toList[i]? = some (.int n tk)) (hz : its.size ≤ sizeLine) :
    wpAny (model prog w) A (eval (.Subscript (.Name x p1) (.Constant (.int (i : Nat)) jj p2) p3) (envX q scope L f' cd [])) (KeyPure (.int n) s) (fun _ _ => False) s := by
  refine Subscript_ (lam_name hk hl hn hd (wpAny_Constant_int ?_))
  have hlt : i < its.size := by
    have := (List.getElem?_eq_some_iff.mp hi).1
    simpa using this
  have hn' := line63
  refine subscriptTail_builtinR (x := .int n tk) ht.typeIs slot_tuple_getitem.lookup
    (getItem_tuple (j := i) (Q := fun r s' => r = .int n tk ∧ KeyPure (.int n) s r s') ht (by omega) (by omega) ?_ (by simpa using hi) ⟨rfl, s.heap, s.toks + 1, rfl, fun _ _ e => e, .int _ _⟩) rfl
  unfold seqIndex?
  simp
  omega
/-- row[:i], ints -/
theorem readsAll_ints {h : Heap} : ∀ {vs : List Value} {ns : List Int}, IntsAre vs ns → ReadsAll h vs (ns.map PyData.int) []
  | _, _, .nil => .nil
  | _, _, .cons n t r => .cons (.int n t) (readsAll_ints r)
theorem lam_cut {p1 p2 p3 p4 : Pos} {i : Nat} {t : Addr} {its : Array Value} {ns : List Int} {jj} (hk : scope.kind = .function) (hl : scope.names.lookup x = some .local) (hn : s.heap.Ns L (fun y => ([(x, .ref t)] : List (Str × Value)).reverse.lookup y)) (hd : (x == ("__debug__" : Str)) = false)
    (ht : IsTup s.heap t its) (hi : IntsAre (its.toList.take i) ns) (hlt : i < its.size) (hz : its.size ≤ sizeLine) :
    wpAny (model prog w) A (eval (.Subscript (.Name x p1) (.Slice none (some (.Constant (.int (i : Nat)) jj p2)) none p4) p3) (envX q scope L f' cd [])) (KeyPure (.tuple (ns.map PyData.int)) s) (fun _ _ => False) s := by
  refine Subscript_ (lam_name hk hl hn hd ?_)
  refine wpAny_Slice ?_
  rw [evalPart_none, evalPart_some]
  refine wpAny_pure (wpAny_Constant_int (wpAny_pure ?_))
  have ht' : IsTup (s.heap.push { cls := .type "slice", data := .fields #[.none, .int (i : Nat) s.toks, .none] }) t its := by
    obtain ⟨o, ho, r⟩ := ht
    exact ⟨o, Heap.get?_push_of_some _ ho, r⟩
  have e1 : HT.sIx its.size 0 none = 0 := HT.sIx_none _ _
  have e2 : HT.sIx its.size its.size (some ((i : Nat) : Int)) = i := by rw [HT.sIx_nat]; omega
  refine tail_any (ops := [.ref s.heap.objs.size, .ref t]) ht'.typeIs PyProof.Rows.slot_tuple_getitem.lookup (HT.getItem_tuple_cut ht' (Heap.IsSliceOf.new ..) .none (.int _ _) (by rw [e1, e2]; omega) ?_ hz) (by with_unfolding_all rfl)
  rw [e1, e2, List.drop_zero, Nat.sub_zero]
  refine ⟨_, _, rfl, fun b o e => Heap.get?_push_of_some _ (Heap.get?_push_of_some _ e), .tuple (Heap.get?_push_size _ rfl) rfl rfl ?_⟩
  exact readsAll_ints hi
end
/-! the rule -/
/-- a lambda's body that gives a tuple's key -/
def KeyBody {κ : Type} (x : Str) (body : Expr) (enc : κ → PyData) (kf : D → Option κ) : Prop :=
  ∀ {prog : Program} {w : World} {A : Around} {s : Shared} {q : Str} {scope : Scope} {L f' : Addr} {cd : Value} {K : KT} {H : Hp} {t : Addr} {its : Array Value} {xs : List V} {d : D} {l : List D} {k : κ}, Lam1 scope x → IsTup s.heap t its → Vals xs its.toList → d.tl = some l → DvL K H xs l → kf d = some k →
    its.size ≤ sizeLine → s.heap.Ns L (fun y => ([(x, .ref t)] : List (Str × Value)).reverse.lookup y) → wpAny (model prog w) A (eval body (envX q scope L f' cd [])) (KeyPure (enc k) s) (fun _ _ => False) s
def kI (i : Nat) : D → Option Int := fun d => match d.tl with
  | some l => (match l[i]? with
    | some (.int n) => some n
    | _ => none)
  | none => none
theorem keyIx {x : Str} {i : Nat} {p1 p2 p3 : Pos} {jj} (hd : (x == ("__debug__" : Str)) = false := by decide) : KeyBody x (.Subscript (.Name x p1) (.Constant (.int (i : Nat)) jj p2) p3) PyData.int (kI i) := by
  intro prog w A s q scope L f' cd K H t its xs d l k Lm ht rv e r hk hz hn
  unfold kI at hk
  rw [e] at hk
  dsimp only at hk
  split at hk
  · rename_i n en
    cases hk
    obtain ⟨u, e1, e2⟩ := r.get en
    cases e2
    obtain ⟨z, e3, e4⟩ := rv.get e1
    obtain ⟨tk, rfl⟩ := e4
    exact lam_ix Lm.kind Lm.loc hn hd ht e3 hz
  · cases hk
/-- two ints -/
def kII : D → Option (Int × Int) := fun d => match d.tl with
  | some (.int a :: .int b :: _ :: _) => some (a, b)
  | _ => none
def encII (p : Int × Int) : PyData := .tuple [.int p.1, .int p.2]
theorem keyII {x : Str} {p1 p2 p3 p4 : Pos} {jj} (hd : (x == ("__debug__" : Str)) = false := by decide) : KeyBody x (.Subscript (.Name x p1) (.Slice none (some (.Constant (.int 2) jj p2)) none p4) p3) encII kII := by
  intro prog w A s q scope L f' cd K H t its xs d l k Lm ht rv e r hk hz hn
  unfold kII at hk
  rw [e] at hk
  split at hk
  · rename_i a b c l' el
    cases el
    cases hk
    cases r with
    | cons r1 r =>
      cases r with
      | cons r2 r =>
        cases r with
        | cons r3 r =>
          cases r1
          cases r2
          obtain ⟨its⟩ := its
          cases rv with
          | cons h1 rv =>
            cases rv with
            | cons h2 rv =>
              cases rv with
              | cons h3 rv =>
                obtain ⟨t1, rfl⟩ := h1
                obtain ⟨t2, rfl⟩ := h2
                exact lam_cut (i := 2) (ns := [a, b]) Lm.kind Lm.loc hn hd ht (.cons _ _ (.cons _ _ .nil)) (by simp) hz
  · cases hk
/-- a list by its items' keys, stable -/
def sortG {κ : Type} (enc : κ → PyData) (l : List D) (ks : List κ) : List D := ((l.zip ks).mergeSort (dataLe false fun b => enc b.2)).map Prod.fst
def dSortG {κ : Type} (enc : κ → PyData) (kf : D → Option κ) (da : DE) : DE := fun δ G R EX => da δ G (fun x G1 => match x with
  | .ref a => ∃ (l : List D) (ks : List κ), G1 a = some (.lst l) ∧ l.map kf = ks.map some ∧ l.length ≤ sizeLine ∧ ∀ p, G1 p = none → R (.ref p) (updD G1 p (.lst (sortG enc l ks)))
  | _ => False) EX
theorem each_dv {K : KT} {H : Hp} {κ : Type} : ∀ {out : List Value} {bs : List (D × κ)}, EachIs (fun (v : Value) (b : D × κ) => ∃ y, RelV y v ∧ Dv K H y b.1) out bs → ∃ ys, Vals ys out ∧ DvL K H ys (bs.map Prod.fst)
  | _, _, .nil => ⟨[], .nil, .nil⟩
  | _, _, .cons ⟨y, r1, r2⟩ t => by
    obtain ⟨ys, h1, h2⟩ := each_dv t
    exact ⟨y :: ys, .cons r1 h1, .cons r2 h2⟩
theorem each_of {K : KT} {H : Hp} {κ : Type} : ∀ {xs : List V} {vs : List Value} {l : List D} {ks : List κ}, Vals xs vs → DvL K H xs l → l.length = ks.length → EachIs (fun (v : Value) (b : D × κ) => ∃ y, RelV y v ∧ Dv K H y b.1) vs (l.zip ks)
  | [], _, _, _, r, d, h => by
    cases r
    cases d
    exact .nil
  | x :: xs, _, _, ks, r, d, h => by
    cases r with
    | cons r rv =>
      cases d with
      | cons d dv =>
        cases ks with
        | nil => cases h
        | cons k ks => exact .cons ⟨_, r, d⟩ (each_of rv dv (Nat.succ.inj h))
theorem zip_kf {κ : Type} {kf : D → Option κ} : ∀ {l : List D} {ks : List κ}, l.map kf = ks.map some → ∀ b ∈ l.zip ks, kf b.1 = some b.2
  | [], [], _, b, hb => by cases hb
  | x :: l, k :: ks, h, b, hb => by
    rw [List.map_cons, List.map_cons] at h
    injection h with h1 h2
    rcases List.mem_cons.mp (show b ∈ (x, k) :: l.zip ks from hb) with rfl | hb
    · exact h1
    · exact zip_kf h2 b hb
theorem extN_up {H H1 : Hp} (e : LamX.ExtN H H1) : Up H H1 := ⟨fun a xs h => e a _ h (fun _ z => by cases z), fun a o u h => e a _ h (fun _ z => by cases z), fun a q h => e a _ h (fun ps z => LamX.codeO_ne ps z)⟩
theorem extN_h {K : KT} {G : DH} {H H1 : Hp} (hr : HRel K G H) (e : LamX.ExtN H H1) (t : LamX.Tabs K.2 H1) : HRel K G H1 := ⟨fun a c q => by
  have h := hr a c q
  have u := extN_up e
  cases c with
  | lst l => obtain ⟨xs, q, r⟩ := h; exact ⟨xs, e _ _ q (fun _ z => by cases z), r.up u⟩
  | dK l => obtain ⟨xs, q, r⟩ := h; exact ⟨xs, e _ _ q (fun _ z => by cases z), r.up u⟩
  | dT l => obtain ⟨xs, q, r⟩ := h; exact ⟨xs, e _ _ q (fun _ z => by cases z), r.up u⟩
  | ins cl fs => obtain ⟨dx, xs, q, r⟩ := h; exact ⟨dx, xs, e _ _ q (fun _ z => by cases z), r.up u⟩
  | xd l => obtain ⟨xs, q, r⟩ := h; exact ⟨xs, e _ _ q (fun _ z => by cases z), r.up u⟩, t⟩
section
variable {X : Cx} {E : EK} {e : Expr} {de : DE} {p pos lp kp : Pos} {params : Arguments} {body : Expr} {scope : Scope} {x : Str} {κ : Type} {enc : κ → PyData} {kf : D → Option κ} {c P : Addr} {j : Nat}
theorem pd_sortG (KB : KeyBody x body enc kf) (hal : ∀ a b, PySem.W.alike (enc a) (enc b) = true) (hsk : (∀ b, ∃ y r, enc b = .tuple (y :: r)) ∨ ∀ b, enc b ≠ .none ∧ ∀ xs, enc b ≠ .tuple xs) (hdep : ∀ b, (enc b).depth ≤ 1) (hkf : ∀ d k, kf d = some k → ∃ l, d.tl = some l)
    (TB : LamX.TabB X.base X.mg c P) (hcode : X.env.code = .ref c) (hm : (P, X.env.qual ++ "<lambda>") ∈ E.2) (hu : ∀ q ∈ E.2, q.1 = P → q.2 = X.env.qual ++ "<lambda>")
    (L : Lam1 scope x) (hdef : defaultsOf params X.env = ([], [])) (hbind : ∀ pm c' ctv v, bindArgs (kla_fn "<lambda>" (X.env.qual ++ "<lambda>") params body scope [] pm (.ref c') ctv) ⟨[v], []⟩ = pure [(x, v)])
    (hr : Room (j + 2) X.A) (hf : X.mg "sorted" = none) (ha : PD X E e de) (hg : Gl X "sorted" := by rfl)
    (hs : starEach (e :: []) X.env = (false, eval e X.env) :: starEach [] X.env := by rfl)
    (he : backTo pos (starEach (e :: []) X.env) = (false, eval e X.env) :: backTo pos (starEach [] X.env) := by rfl) (hpl : (backTo pos (starEach (e :: []) X.env)).any (·.1) = false := by rfl)
    (hall : (backToKw pos (keywordEach [⟨some "key", .Lambda params body scope lp, kp⟩] X.env)).all (·.1.isSome) = true := by rfl) (hnone : (backToKw pos (keywordEach [⟨some "key", .Lambda params body scope lp, kp⟩] X.env)).any (·.1.isNone) = false := by rfl)
    (hks : (backToKw pos (keywordEach [⟨some "key", .Lambda params body scope lp, kp⟩] X.env)).filterMap (·.1) = (["key"] : List Str) := by rfl) :
    PD X E (.Call (.Name "sorted" p) [e] [⟨some "key", .Lambda params body scope lp, kp⟩] pos) (dSortG enc kf de) := by
  refine ⟨⟨fun pins s σ H Q I h => ?_⟩⟩
  obtain ⟨δ, G, R, EX, sr, hG, h, cr, cx⟩ := h
  refine wpAny_Call_Name_kw (ld_blt I hg hf (show bootBuiltins "sorted" = some (.builtin "sorted") by decide +kernel) ?_)
  refine PyProof.Rows.callWith_kw (thn ((pa_cons ha.pe pa_nil hs).run pos pins s σ H (fun vs H1 => ∃ (a : Addr) (l : List D) (ks : List κ) (G1 : DH), vs = [.ref a] ∧ Up H H1 ∧ HRel (kt X E) G1 H1 ∧ G1 a = some (.lst l) ∧ l.map kf = ks.map some ∧ l.length ≤ sizeLine ∧ ∀ p, G1 p = none → R (.ref p) (updD G1 p (.lst (sortG enc l ks)))) I
    ⟨δ, G, _, EX, sr, hG, h, fun v H1 d G1 u1 h1 r1 q1 => ?_, cx⟩) fun us s1 ⟨vs, H1, I1, r1, q1⟩ => ?_) he hpl hall hnone
  · dsimp only at q1
    split at q1
    · cases r1
      obtain ⟨l, ks, e1, e2, e3, q⟩ := q1
      exact ⟨_, l, ks, G1, rfl, u1, h1, e1, e2, e3, q⟩
    · exact False.elim q1
  · obtain ⟨a, l, ks, G1, rfl, u1, h1, e1, e2, e3, q⟩ := q1
    rw [hks]
    cases r1 with
    | cons ra rn =>
      cases rn
      cases ra
      show wpAny _ _ (evalAll ((do let v ← eval (.Lambda params body scope lp) X.env; standAt pos; pure v) :: [])) _ _ s1
      refine wpAny_evalAll_cons (wpAny_bind (LamX.lam_make2 (T := E.2) I1 TB hcode hm hu h1.t hdef (fun y hy z => absurd z (L.free y hy)) fun f c' pm ctv H2 s2 I2 ex tb hf2 hfn hfr hc2 => wpAny_bind (wpAny_standAt (wpAny_pure (wpAny_evalAll_nil ?_)))))
      have hcl : cloFrom X.env.cells scope.names [] = [] := by
        have z : ∀ names : List (Str × NameKind), (∀ y ∈ names, y.2 ≠ .free) → cloFrom X.env.cells names [] = [] := fun names => by
          induction names with
          | nil => intro _; rfl
          | cons y r ih =>
            intro hy
            obtain ⟨n, kd⟩ := y
            have h0 := hy (n, kd) List.mem_cons_self
            have ih := ih fun y hm => hy y (List.mem_cons_of_mem _ hm)
            unfold cloFrom
            cases kd <;> first | exact ih | exact absurd rfl h0
        exact z _ L.free
      rw [hcl] at hf2
      have h2 : HRel (kt X E) G1 H2 := extN_h h1 ex tb
      obtain ⟨xs, ha2, rl⟩ := h2 _ _ e1
      obtain ⟨its, rv, pl, hz⟩ := I2.list (SqL.of ha2)
      have hlk : l.length = ks.length := by
        have z := congrArg List.length e2
        rwa [List.length_map, List.length_map] at z
      have hbs : (l.zip ks).length = l.length := by rw [List.length_zip, ← hlk, Nat.min_self]
      have hcr : s2.heap.CodeRec (.ref c') (X.env.qual ++ "<lambda>") := by
        obtain ⟨⟨oc, vs, t, hoc, hdc, hvc⟩, _, _⟩ := I2.hok c' _ hc2
        exact ⟨c', oc, vs, t, rfl, hoc, hdc, hvc⟩
      have hun := hr.units
      refine PySem.W.sorted_key_data (b := false) (R := fun (v : Value) (b : D × κ) => ∃ y, RelV y v ∧ Dv (kt X E) H2 y b.1) (fun b : D × κ => enc b.2) pl.isList (each_of rv rl hlk) ?hal ?hsk (by rw [hbs]; exact e3) (fun b _ => ?_) (PyProof.Rows.ksk_s1 _ _) (fun _ => PyProof.Rows.ksk_l1 _ _) (fun _ => PyProof.Rows.ksk_t1 _ _) (fun v b ⟨y, ry, dy⟩ hb h' tk kp => ?_) fun out cc h' tk kp fr hD hlen eo => ?_
      case hal =>
        exact AllAlike.of fun b b' => hal _ _
      case hsk =>
        rcases hsk with z | z
        · exact Sortable.tuples fun b => z _
        · exact Sortable.others fun b => z _
      · have := hdep b.2
        omega
      · have kk := zip_kf e2 b hb
        obtain ⟨l', el⟩ := hkf _ _ kk
        obtain ⟨t, xs', ey, hq, r'⟩ := dy.sqT el
        subst ey
        obtain rfl : v = .ref t := ry
        obtain ⟨its', rv', pt, hz'⟩ := I2.tuple hq
        have pt' : IsTup h' t its'.toArray := by
          obtain ⟨o, ho, rest⟩ := pt
          exact ⟨o, kp _ _ ho, rest⟩
        refine lam_key (s := { s2 with heap := h', toks := tk }) L (kp _ _ hf2) (hcr.keeps kp) hr.in1.in1.depth (I2.nolimit.keeps kp) (hbind pm c' ctv _) fun h₁ tk1 k1 hn => ?_
        have pt2 : IsTup h₁ t its'.toArray := by
          obtain ⟨o, ho, rest⟩ := pt'
          exact ⟨o, k1 _ _ ho, rest⟩
        exact KB (s := { s2 with heap := h₁, toks := tk1 }) L pt2 (by simpa using rv') el r' kk (by rw [List.size_toArray, ← rv'.length]; exact hz') hn
      · obtain ⟨ys, v1, v2⟩ := each_dv eo
        have fp : H2 (s2.heap.objs.size + 1) = none := I2.hok.fresh (Nat.le_succ _)
        have I3 : Inv X pins σ (upd H2 (s2.heap.objs.size + 1) (.lst ys)) { s2 with heap := h', toks := tk } := I2.laid kp (Nat.le_succ _) ⟨by rw [v2.length, List.length_map, List.length_mergeSort, hbs]; exact e3, _, _, v1, hD⟩
        have un := Up.new (o := .lst ys) fp
        exact ⟨.ref (s2.heap.objs.size + 1), _, I3, rfl, cr _ _ _ _ (u1.trans ((extN_up ex).trans un)) (h2.new (c := .lst _) fp ⟨ys, upd_same, v2.up un⟩) (.ref _) (q _ (h2.none fp))⟩
end
end Cc
/-! ### sorted of data, membership at any depth, pairs of names, while -/
namespace Cc
open PySem PySem.Spec PyProof.Rows L2
open PySem.W (EachIs AllAlike Sortable dataLe)
def sortV (bs : List (V × PyData)) : List V := (bs.mergeSort (dataLe false Prod.snd)).map Prod.fst
def rSortD (K : PySem.W.Frag) : List V → Hp → VK → Prop := fun vs H Q => ∃ (a : Addr) (bs : List (V × PyData)), vs = [V.ref a] ∧ SqL K H a (bs.map Prod.fst) ∧ (∀ b ∈ bs, Dp K H b.1 b.2) ∧ AllAlike (bs.map Prod.snd) ∧ Sortable (bs.map Prod.snd) ∧ (∀ b ∈ bs, b.2.depth ≤ 40) ∧
  bs.length ≤ sizeLine ∧ ∀ p, H p = none → Q (.ref p) (upd H p (.lst (sortV bs)))
theorem each_of_vals {P : Value → (V × PyData) → Prop} : ∀ {bs : List (V × PyData)} {vs : List Value}, Vals (bs.map Prod.fst) vs → (∀ b ∈ bs, ∀ v, RelV b.1 v → P v b) → EachIs P vs bs
  | [], _, r, _ => by cases r; exact .nil
  | b :: bs, _, r, h => by
    cases r with
    | cons r rs => exact .cons (h b List.mem_cons_self _ r) (each_of_vals rs fun c hc => h c (List.mem_cons_of_mem _ hc))
theorem vals_of_each : ∀ {bs : List (V × PyData)} {vs : List Value}, EachIs (fun v (b : V × PyData) => RelV b.1 v) vs bs → Vals (bs.map Prod.fst) vs
  | _, _, .nil => .nil
  | _, _, .cons r t => .cons r (vals_of_each t)
section
variable {X : Cx}
theorem cr_sortD (hu : X.A.units + 42 < cLine) : CallR X (.builtin "sorted") (rSortD X.K) := by
  intro pins s σ H vs us Q I r h
  obtain ⟨a, bs, rfl, hs, hd, hal, hk, hdep, hz, q⟩ := h
  obtain ⟨its, rv, hl, _⟩ := I.list hs
  rw [Vals.ref1 r]
  refine PySem.W.sorted_data (R := fun v (b : V × PyData) => RelV b.1 v) (enc := Prod.snd) hl.isList (each_of_vals rv fun b _ v r => r) (each_of_vals rv fun b hb v r => Dp.reads I b.2 b.1 v (hd b hb) r) hal hk hz (fun b hb => by have := hdep b hb; omega) fun out ho eo => ?_
  obtain ⟨ep, he'⟩ := PyProof.Rows.sortedAll_at s.heap its out.toArray
  have hlen : (sortV bs).length ≤ sizeLine := by unfold sortV; rw [List.length_map, List.length_mergeSort]; exact hz
  refine ⟨.ref _, upd H (s.heap.objs.size + 1) (.lst (sortV bs)), I.laid (t' := s.toks) (fun _ _ => PyProof.Rows.sortedAll_old) (Nat.le_succ _) ⟨hlen, out, ep, vals_of_each eo, he'⟩, rfl, q _ (I.hok.fresh (Nat.le_succ _))⟩
/-- a list by its items' order -/
def sortD (l : List D) (ts : List PyData) : List D := ((l.zip ts).mergeSort (dataLe false Prod.snd)).map Prod.fst
def lstOf (G : DH) (x : D) : Option (List D) := match x with
  | .ref a => (match G a with
    | some (.lst l) => some l
    | _ => none)
  | .rol l => some l
  | _ => none
theorem lstOf_sq {K : KT} {G : DH} {H : Hp} {v : V} {y : D} {l : List D} (hr : HRel K G H) (r : Dv K H v y) (e : lstOf G y = some l) : ∃ p xs, v = .ref p ∧ SqL K.1 H p xs ∧ DvL K H xs l := by
  unfold lstOf at e
  split at e
  · cases r
    split at e
    · rename_i a l' ea
      cases e
      obtain ⟨xs, e1, r1⟩ := hr _ _ ea
      exact ⟨_, _, rfl, SqL.of e1, r1⟩
    · cases e
  · cases e
    cases r with
    | rol hq r => exact ⟨_, _, rfl, hq.sqL, r⟩
  · cases e
def dSorted : DC := fun xs G R => match xs with
  | [x] => ∃ l ts, lstOf G x = some l ∧ RddL G l ts ∧ AllAlike ts ∧ Sortable ts ∧ (∀ t ∈ ts, t.depth ≤ 40) ∧ l.length ≤ sizeLine ∧ ∀ p, G p = none → R (.ref p) (updD G p (.lst (sortD l ts)))
  | _ => False
theorem RddL.len {G : DH} : ∀ {l : List D} {ts : List PyData}, RddL G l ts → l.length = ts.length
  | _, _, .nil => rfl
  | _, _, .cons _ r => congrArg (· + 1) (RddL.len r)
theorem dpAll_at {K : PySem.W.Frag} {H : Hp} : ∀ {vs : List V} {ts : List PyData}, DpAll K H vs ts → ∀ b ∈ vs.zip ts, Dp K H b.1 b.2
  | _, _, .nil, b, hb => by cases hb
  | _, _, .cons h r, b, hb => by
    rcases List.mem_cons.mp (show b ∈ (_, _) :: _ from hb) with rfl | hb
    · exact h
    · exact dpAll_at r b hb
theorem zip_pair {α β γ : Type} {P : α → β → Prop} : ∀ {vs : List α} {ds : List β} {ts : List γ}, vs.length = ds.length → True
  | _, _, _, _ => trivial
theorem dvL_zip {K : KT} {H : Hp} : ∀ {vs : List V} {ds : List D} {ts : List PyData}, DvL K H vs ds → vs.length = ts.length → EachIs (fun (a : V × PyData) (b : D × PyData) => Dv K H a.1 b.1 ∧ a.2 = b.2) (vs.zip ts) (ds.zip ts)
  | _, _, [], .nil, _ => .nil
  | _, _, t :: ts, .cons h r, e => .cons ⟨h, rfl⟩ (dvL_zip r (Nat.succ.inj e))
theorem dvL_of_each {K : KT} {H : Hp} : ∀ {as : List (V × PyData)} {bs : List (D × PyData)}, EachIs (fun (a : V × PyData) (b : D × PyData) => Dv K H a.1 b.1 ∧ a.2 = b.2) as bs → DvL K H (as.map Prod.fst) (bs.map Prod.fst)
  | _, _, .nil => .nil
  | _, _, .cons h r => .cons h.1 (dvL_of_each r)
/-- pairs sorted by an equal rank stay paired -/
theorem each_sort {α β : Type} {P : α → β → Prop} {le : α → α → Bool} {le' : β → β → Bool} (hle : ∀ a b c d, P a b → P c d → le a c = le' b d) :
    ∀ {as : List α} {bs : List β}, EachIs P as bs → EachIs P (as.mergeSort le) (bs.mergeSort le') := by
  intro as bs h
  have key : ∀ {as : List α} {bs : List β}, EachIs P as bs → ∃ zs : List (α × β), as = zs.map Prod.fst ∧ bs = zs.map Prod.snd ∧ ∀ z ∈ zs, P z.1 z.2 := by
    intro as bs h
    induction h with
    | nil => exact ⟨[], rfl, rfl, fun z hz => by cases hz⟩
    | cons h _ ih =>
      obtain ⟨zs, rfl, rfl, hz⟩ := ih
      refine ⟨(_, _) :: zs, rfl, rfl, fun z hm => ?_⟩
      rcases List.mem_cons.mp hm with rfl | hm
      · exact h
      · exact hz z hm
  obtain ⟨zs, rfl, rfl, hz⟩ := key h
  have back : ∀ {zs : List (α × β)}, (∀ z ∈ zs, P z.1 z.2) → EachIs P (zs.map Prod.fst) (zs.map Prod.snd) := by
    intro zs
    induction zs with
    | nil => intro _; exact .nil
    | cons z zs ih => intro h; exact .cons (h z List.mem_cons_self) (ih fun y hy => h y (List.mem_cons_of_mem _ hy))
  rw [← List.map_mergeSort (r := fun z y : α × β => le z.1 y.1) (fun a _ b _ => rfl), ← List.map_mergeSort (r := fun z y : α × β => le z.1 y.1) (s := le') (f := Prod.snd) (l := zs) fun a ha b hb => hle _ _ _ _ (hz a ha) (hz b hb)]
  exact back fun z hm => hz z ((List.mergeSort_perm _ _).mem_iff.mp hm)
theorem cd_sorted (hu : X.A.units + 64 < cLine) : CD X (.builtin "sorted") dSorted := ⟨_, cr_sortD (by omega), fun T x H d G R Q hr r q cr => by
  unfold dSorted at q
  split at q
  · cases r with
    | cons r1 r2 =>
      cases r2
      obtain ⟨l, ts, e, rd, hal, hk, hdep, hz, q⟩ := q
      obtain ⟨p, xs, rfl, hq, rl⟩ := lstOf_sq hr r1 e
      have hl : xs.length = ts.length := rl.length.trans rd.len
      have e1 : (xs.zip ts).map Prod.fst = xs := List.map_fst_zip (by omega)
      have e2 : (xs.zip ts).map Prod.snd = ts := List.map_snd_zip (by omega)
      refine ⟨p, xs.zip ts, rfl, by rw [e1]; exact hq, dpAll_at (RddL.dp hr rd rl), by rw [e2]; exact hal, by rw [e2]; exact hk, fun b hb => hdep _ (by rw [← e2]; exact List.mem_map.mpr ⟨b, hb, rfl⟩), by rw [List.length_zip, rl.length]; omega, fun n hn => ?_⟩
      have un := Up.new (o := .lst (sortV (xs.zip ts))) hn
      refine cr _ _ _ _ un (hr.new (c := .lst (sortD l ts)) hn ⟨sortV (xs.zip ts), upd_same, ?_⟩) (.ref n) (q n (hr.none hn))
      have z := each_sort (le := dataLe false Prod.snd) (le' := dataLe false (Prod.snd : D × PyData → PyData)) (fun a b c d h1 h2 => by
        show PySem.W.dataLe false (fun t : PyData => t) a.2 c.2 = PySem.W.dataLe false (fun t : PyData => t) b.2 d.2
        rw [h1.2, h2.2]) (dvL_zip rl hl)
      exact (dvL_of_each z).up un
  · exact False.elim q⟩
/-! membership at any depth, in a tuple -/
def rInT (neg : Bool) (K : PySem.W.Frag) : R2 := fun x y H Q => ∃ d ds, Dp K H x d ∧ Dp K H y (.tuple ds) ∧ SeqAt.shaped d = true ∧ SeqAt.shaped (.tuple ds) = true ∧ Q (.bl (xor neg (ds.any fun z => PyData.eqv z d))) H
theorem op_inT (hu : X.A.units + 64 < cLine) : OpR X (compareOp .In) (rInT false X.K) := by
  intro pins s σ H x y v u Q I rx ry h
  obtain ⟨d, ds, hd, he, sd, se, q⟩ := h
  obtain ⟨as, r1⟩ := Dp.reads I d x v hd rx
  obtain ⟨bs, r2⟩ := Dp.reads I (.tuple ds) y u he ry
  refine SeqAt.in_tuple_reads r2 r1 (SeqAt.canLay_of_shaped se) (SeqAt.canLay_of_shaped sd) ?_ ⟨.bl _, H, I, rfl, by simpa using q⟩
  have z := SeqAt.depth_of_shaped se
  rw [PyData.depth] at z
  omega
theorem op_notInT (hu : X.A.units + 64 < cLine) : OpR X (compareOp .NotIn) (rInT true X.K) := by
  intro pins s σ H x y v u Q I rx ry h
  obtain ⟨d, ds, hd, he, sd, se, q⟩ := h
  obtain ⟨as, r1⟩ := Dp.reads I d x v hd rx
  obtain ⟨bs, r2⟩ := Dp.reads I (.tuple ds) y u he ry
  refine SeqAt.notIn_tuple_reads r2 r1 (SeqAt.canLay_of_shaped se) (SeqAt.canLay_of_shaped sd) ?_ ⟨.bl _, H, I, rfl, by simpa using q⟩
  have z := SeqAt.depth_of_shaped se
  rw [PyData.depth] at z
  omega
def dInT (neg : Bool) : D2 := fun x y G R => ∃ t ds, Rdd G x t ∧ Rdd G y (.tuple ds) ∧ SeqAt.shaped t = true ∧ SeqAt.shaped (.tuple ds) = true ∧ R (.bl (xor neg (ds.any fun z => PyData.eqv z t))) G
theorem lift_inT (neg : Bool) (T : List (Addr × Str)) : Lift2 (X.K, T) (rInT neg X.K) (dInT neg) := fun x y H d e G R Q hr rx ry q cr => by
  obtain ⟨t, ds, h1, h2, s1, s2, q⟩ := q
  exact ⟨t, ds, h1.dp hr rx, h2.dp hr ry, s1, s2, cr _ _ _ _ (Up.refl H) hr (.bl _) q⟩
theorem od_inT (hu : X.A.units + 64 < cLine) : OD X (compareOp .In) (dInT false) := ⟨_, op_inT hu, lift_inT false⟩
theorem od_notInT (hu : X.A.units + 64 < cLine) : OD X (compareOp .NotIn) (dInT true) := ⟨_, op_notInT hu, lift_inT true⟩
end
/-! pairs of names -/
section
variable {X : Cx} {E : EK} {a b c : Expr} {dl : DA} {pos : Pos} {i j l : Nat} {x y z : Str} {px py pz pt : Pos} {k1 k2 pt2}
def sPar2 (i j : Nat) (dl : DA) : DSt := fun D δ G => dl δ G (fun xs G1 => match xs with
  | [u, v] => D.nx ((δ.set i (some u)).set j (some v)) G1
  | _ => False) D.ex
theorem pds_par2 (hc : X.calm = true) (hN : X.N.Nodup) (hi : X.N[i]? = some x) (hj : X.N[j]? = some y) (hij : i ≠ j)
    (hx : X.env.scope.names.lookup x = some .local) (hy : X.env.scope.names.lookup y = some .local) (ha : PDA X E [a, b] dl)
    (hw : swappedStores [.Tuple [.Name x px, .Name y py] k1 pt] (.Tuple [a, b] k2 pt2) X.env = pure (some [x, y]) := by rfl)
    (hs : swapsWithSole [.Tuple [.Name x px, .Name y py] k1 pt] (.Tuple [a, b] k2 pt2) pos.line X.env = pure false := by rfl) :
    PDS X E (.Assign [.Tuple [.Name x px, .Name y py] k1 pt] (.Tuple [a, b] k2 pt2) pos) (sPar2 i j dl) :=
  ⟨imS (ps_par hc hN hi hj hij hx hy ha.pa hw hs) fun Dn σ H ⟨δ, G, DD, sr, hr, h, cn, ct, cb, cc, cx⟩ => ⟨δ, G, _, DD.ex, sr, hr, h, fun vs H1 ds G1 u1 h1 r1 q1 => by
    cases r1 with
    | nil => exact False.elim q1
    | cons r1 r =>
      cases r with
      | nil => exact False.elim q1
      | cons r2 r =>
        cases r with
        | nil => exact ⟨_, _, rfl, cn _ _ _ _ u1 (((sr.up u1).set r1).set r2) h1 q1⟩
        | cons => exact False.elim q1, cx⟩⟩
def sPar3 (i j l : Nat) (dl : DA) : DSt := fun D δ G => dl δ G (fun xs G1 => match xs with
  | [u, v, w] => D.nx (((δ.set i (some u)).set j (some v)).set l (some w)) G1
  | _ => False) D.ex
theorem pds_par3 (hc : X.calm = true) (hN : X.N.Nodup) (hi : X.N[i]? = some x) (hj : X.N[j]? = some y) (hl : X.N[l]? = some z) (hij : i ≠ j) (hil : i ≠ l) (hjl : j ≠ l)
    (hx : X.env.scope.names.lookup x = some .local) (hy : X.env.scope.names.lookup y = some .local) (hz : X.env.scope.names.lookup z = some .local) (ha : PDA X E [a, b, c] dl)
    (hw : swappedStores [.Tuple [.Name x px, .Name y py, .Name z pz] k1 pt] (.Tuple [a, b, c] k2 pt2) X.env = pure (some [x, y, z]) := by rfl)
    (hs : swapsWithSole [.Tuple [.Name x px, .Name y py, .Name z pz] k1 pt] (.Tuple [a, b, c] k2 pt2) pos.line X.env = pure false := by rfl) :
    PDS X E (.Assign [.Tuple [.Name x px, .Name y py, .Name z pz] k1 pt] (.Tuple [a, b, c] k2 pt2) pos) (sPar3 i j l dl) :=
  ⟨imS (ps_par3 hc hN hi hj hl hij hil hjl hx hy hz ha.pa hw hs) fun Dn σ H ⟨δ, G, DD, sr, hr, h, cn, ct, cb, cc, cx⟩ => ⟨δ, G, _, DD.ex, sr, hr, h, fun vs H1 ds G1 u1 h1 r1 q1 => by
    cases r1 with
    | nil => exact False.elim q1
    | cons r1 r =>
      cases r with
      | nil => exact False.elim q1
      | cons r2 r =>
        cases r with
        | nil => exact False.elim q1
        | cons r3 r =>
          cases r with
          | nil => exact ⟨_, _, _, rfl, cn _ _ _ _ u1 ((((sr.up u1).set r1).set r2).set r3) h1 q1⟩
          | cons => exact False.elim q1, cx⟩⟩
/-! while -/
def sWhile (c : DT) (t : DSt) : DSt := fun D δ G => ∃ W : Nat → DS → DH → Prop, (∃ m, W m δ G) ∧ ∀ m δ G, W m δ G →
  c δ G (fun b G1 => if b = true then t { D with nx := fun δ' G' => ∃ m', m' < m ∧ W m' δ' G', ct := fun δ' G' => ∃ m', m' < m ∧ W m' δ' G', bk := D.nx } δ G1 else D.nx δ G1) D.ex
theorem pds_while {cd : Expr} {body : List Stmt} {tc : DT} {tb : DSt} (hp : PassesOwn (model X.prog X.w) X.A X.env X.xe) (hc : PDT X E cd tc) (hb : PDSs X E body tb) : PDS X E (.While cd body [] pos) (sWhile tc tb) :=
  ⟨imS (ps_while hp hc.pt hb.ps) fun Dn σ H ⟨δ, G, DD, sr, hr, h, cn, ct, cb, cc, cx⟩ => by
    obtain ⟨W, ⟨m0, w0⟩, turn⟩ := h
    refine ⟨fun m σ' H' => ∃ δ' G', SRel (kt X E) H' σ' δ' ∧ HRel (kt X E) G' H' ∧ Up H H' ∧ W m δ' G', ⟨m0, δ, G, sr, hr, Up.refl H, w0⟩, ?_⟩
    rintro m σ1 H1 ⟨δ1, G1, s1, h1, u1, w1⟩
    refine ⟨δ1, G1, _, _, s1, h1, turn m δ1 G1 w1, fun b H2 G2 u2 h2 q2 => ?_, cx.up u1⟩
    have u12 := u1.trans u2
    cases b with
    | true =>
      rw [if_pos rfl] at q2
      show if true = true then _ else _
      rw [if_pos rfl]
      exact ⟨fun σ' H' => ∃ m', m' < m ∧ ∃ δ' G', SRel (kt X E) H' σ' δ' ∧ HRel (kt X E) G' H' ∧ Up H H' ∧ W m' δ' G', fun σ' H' z => z,
        δ1, G2, _, s1.up u2, h2, q2, fun σ3 H3 δ3 G3 u3 s3 h3 ⟨m', l, w⟩ => ⟨m', l, δ3, G3, s3, h3, u12.trans u3, w⟩, ct.up u12, cn.up u12, fun σ3 H3 δ3 G3 u3 s3 h3 ⟨m', l, w⟩ => ⟨m', l, δ3, G3, s3, h3, u12.trans u3, w⟩, cx.up u12⟩
    | false =>
      rw [if_neg Bool.false_ne_true] at q2
      show if false = true then _ else _
      rw [if_neg Bool.false_ne_true]
      exact cn _ _ _ _ u12 (s1.up u2) h2 q2⟩
end
/-! keys -/
theorem encI_alike : ∀ a b : Int, PySem.W.alike (PyData.int a) (PyData.int b) = true := fun a b => by simp [PySem.W.alike]
theorem encI_sort : (∀ b : Int, ∃ y r, PyData.int b = .tuple (y :: r)) ∨ ∀ b : Int, PyData.int b ≠ .none ∧ ∀ xs, PyData.int b ≠ .tuple xs := .inr fun b => ⟨(by intro h; cases h), (by intro xs h; cases h)⟩
theorem encI_depth : ∀ b : Int, (PyData.int b).depth ≤ 1 := fun b => by simp [PyData.depth]
theorem kI_tl {i : Nat} : ∀ d k, kI i d = some k → ∃ l, d.tl = some l := fun d k h => by
  unfold kI at h
  split at h
  · rename_i l e
    exact ⟨l, e⟩
  · cases h
theorem encII_alike : ∀ a b : Int × Int, PySem.W.alike (encII a) (encII b) = true := fun a b => by simp [encII, PySem.W.alike, PySem.W.alikeAll]
theorem encII_sort : (∀ b : Int × Int, ∃ y r, encII b = .tuple (y :: r)) ∨ ∀ b : Int × Int, encII b ≠ .none ∧ ∀ xs, encII b ≠ .tuple xs := Or.inl fun b => ⟨.int b.1, [.int b.2], rfl⟩
theorem encII_depth : ∀ b : Int × Int, (encII b).depth ≤ 1 := fun b => by simp [encII, PyData.depth, PyData.depthAll]
theorem kII_tl : ∀ d k, kII d = some k → ∃ l, d.tl = some l := fun d k h => by
  unfold kII at h
  split at h
  · rename_i e
    exact ⟨_, e⟩
  · cases h
end Cc
/-! ### plain reasoning over readings; the draws, the comparison -/
namespace Cc
open PySem PySem.Spec PyProof.Rows L2
/-! loops -/
theorem goFor_by {ok : DH → Prop} {g : DG} {tb : DSt} {Dn : DEnds} (I : List D → DS → DH → Prop) (hok : ∀ xs δ G, I xs δ G → ok G) (hnil : ∀ δ G, I [] δ G → Dn.nx δ G)
    (hs : ∀ x xs δ G (N : DS → DH → Prop), I (x :: xs) δ G → (∀ δ' G', I xs δ' G' → N δ' G') → g x δ G (fun δ2 G2 => tb { Dn with nx := N, ct := N, bk := Dn.nx } δ2 G2) Dn.ex) :
    ∀ (l : List D) (δ : DS) (G : DH), I l δ G → goFor ok g tb Dn l δ G
  | [], δ, G, h => ⟨hok _ _ _ h, hnil _ _ h⟩
  | x :: xs, δ, G, h => ⟨hok _ _ _ h, hs x xs δ G _ h fun δ' G' h' => goFor_by I hok hnil hs xs δ' G' h'⟩
theorem goLc_by {ok : DH → Prop} {a : Addr} {g : DG} {tt : DT} {te : DE} {k : DH → Prop} {δ : DS} (I : List D → DH → Prop) (hok : ∀ xs G, I xs G → ok G) (hnil : ∀ G, I [] G → k G)
    (hs : ∀ x xs G (N : DH → Prop), I (x :: xs) G → (∀ G', I xs G' → N G') → g x δ G (fun δ2 G2 => tt δ2 G2 (fun b G3 => if b = true then te δ2 G3 (fun y G4 => ∃ acc, G4 a = some (.lst acc) ∧ acc.length < sizeLine ∧ N (updD G4 a (.lst (acc ++ [y])))) noX else N G3) noX) noX) :
    ∀ (l : List D) (G : DH), I l G → goLc ok a g tt te k δ l G
  | [], G, h => ⟨hok _ _ h, hnil _ h⟩
  | x :: xs, G, h => ⟨hok _ _ h, hs x xs G _ h fun G' h' => goLc_by I hok hnil hs xs G' h'⟩
/-- a comprehension that changes nothing -/
theorem goLc_map {ok : DH → Prop} {a : Addr} {g : DG} {tt : DT} {te : DE} {k : DH → Prop} {δ : DS} {G0 : DH} (F : D → Option D) (l : List D) (hl : l.length ≤ sizeLine) (hok : ∀ acc, ok (updD G0 a (.lst acc)))
    (hk : k (updD G0 a (.lst (l.filterMap F))))
    (hs : ∀ x ∈ l, ∀ acc (N : DH → Prop), acc.length < sizeLine → (match F x with
      | none => N (updD G0 a (.lst acc))
      | some y => N (updD G0 a (.lst (acc ++ [y])))) → g x δ (updD G0 a (.lst acc)) (fun δ2 G2 => tt δ2 G2 (fun b G3 => if b = true then te δ2 G3 (fun y G4 => ∃ acc, G4 a = some (.lst acc) ∧ acc.length < sizeLine ∧ N (updD G4 a (.lst (acc ++ [y])))) noX else N G3) noX) noX) :
    goLc ok a g tt te k δ l (updD G0 a (.lst [])) := by
  refine goLc_by (fun xs G => ∃ ys, l = ys ++ xs ∧ G = updD G0 a (.lst (ys.filterMap F))) (fun xs G ⟨ys, _, e⟩ => by rw [e]; exact hok _) (fun G ⟨ys, e1, e⟩ => by
    rw [List.append_nil] at e1
    subst e1
    rw [e]
    exact hk) (fun x xs G N ⟨ys, e1, e2⟩ hN => ?_) l _ ⟨[], rfl, rfl⟩
  subst e2
  have hlen : (ys.filterMap F).length < sizeLine := by
    have h1 := List.length_filterMap_le F ys
    rw [e1, List.length_append, List.length_cons] at hl
    omega
  refine hs x (by rw [e1]; simp) _ N hlen ?_
  cases q : F x with
  | none => exact hN _ ⟨ys ++ [x], by rw [e1]; simp, by simp [List.filterMap_append, q]⟩
  | some y => exact hN _ ⟨ys ++ [x], by rw [e1]; simp, by simp [List.filterMap_append, q]⟩
/-! forgetting what is not needed -/
def frg (R : DK) : DK := fun v G => ∃ G1, Sub G1 G ∧ R v G1
theorem frg_of {R : DK} {v : D} {G : DH} (h : R v G) : frg R v G := ⟨G, Sub.refl G, h⟩
theorem clo_frg {K : KT} {H : Hp} {Q : VK} {R : DK} (h : CloR K H Q R) : CloR K H Q (frg R) := fun v H' d G' u hr r ⟨G1, s, q⟩ => h v H' d G1 u (hr.sub s) r q
section
variable {P : Program} {w : World} {K : PySem.W.Frag} {T : List (Addr × Str)} {cv : Value → Prop} {mg : Str → Option Value} {base : Heap} {N ps : List Str} {x qual : Str} {params : Arguments} {body : List Stmt} {scope : Scope} {dvs : List V} {kws : List (Str × V)} {f : Addr} {fd : FuncData} {k : Nat} {sb : DSt} {sd : SpD}
theorem okF (F : FunD K x qual params body scope dvs kws f fd) (S : FnScope N ps scope) (hcv : cv fd.code) (len : ∀ ds G R EX, sd ds G R EX → ds.length = ps.length) (B : BodyD P w K T cv mg base N qual scope body k sb)
    (hp : ∀ ds G R EX, sd ds G R EX → sb (endsD (frg R) EX) (startD N ds) G) : FnOk P w K mg base (L2N.CX P w) (k + 1) f fd ps (upF (K, T) sd) := by
  have z := okD (T := T) (sd := fun ds G R EX => ds.length = ps.length ∧ sb (endsD R EX) (startD N ds) G) F S hcv (fun ds G R EX h => h.1) B (fun ds G R EX h => h.2)
  exact z.imp fun vs H Q E ⟨ds, G, R, EX, dv, hr, q, cr, cx⟩ => ⟨ds, G, frg R, EX, dv, hr, ⟨len _ _ _ _ q, hp _ _ _ _ q⟩, clo_frg cr, cx⟩
end
/-! the draws -/
def Draws (l : List D) : Prop := ∃ (x y : Int) (zs : List Int), l = .int x :: .int y :: zs.map D.int
/-- the numbers drawn, as they come -/
def refill : List D → List D
  | .int x :: .int y :: z :: zs => if y = 0 then .int x :: z :: zs else .int x :: .int y :: z :: zs
  | l => l
def offF (l : List D) (m : Int) : Int × List D := match refill l with
  | .int x :: .int y :: zs => if 0 < y then (y % m, .int x :: .int (y / m) :: zs) else ((x * 48271 + 11) % 2147483647 / 64 % m, .int ((x * 48271 + 11) % 2147483647) :: .int y :: zs)
  | l => (0, l)
def stepI (f c : Int) : Int := (f * 31 + (if c < 0 then -c else c)) % 2147483647
def diceL (ns : List Int) (k : Int) : List D := .int (ns.foldl stepI k) :: .int 0 :: (ns.filter fun c => decide ((10 : Int) ^ 18 ≤ c)).map D.int
def sd__law_off : SpD := fun ds G R _ => ∃ (a : Addr) (m : Int) (l : List D), ds = [.ref a, .int m] ∧ G a = some (.lst l) ∧ Draws l ∧ 0 < m ∧ m < 1073741824 ∧ ∀ r l', 0 ≤ r → r < m → Draws l' → (r, l') = offF l m → R (.int r) (updD G a (.lst l'))
def seqI (G : DH) (x : D) (ns : List Int) : Prop := (x = .rol (ns.map D.int) ∨ x = .wol (ns.map D.int)) ∨ ∃ a, x = .ref a ∧ G a = some (.lst (ns.map D.int))
def sd__law_dice : SpD := fun ds G R _ => ∃ (x : D) (k : Int) (ns : List Int), ds = [x, .int k] ∧ seqI G x ns ∧ ns.length ≤ 1000 ∧ ∀ p l, G p = none → Draws l → l = diceL ns k → R (.ref p) (updD G p (.lst l))
mutual
/-- no list, no tuple of it is very long -/
def lean : PyData → Bool
  | .list xs => decide (xs.length ≤ 100000) && leanAll xs
  | .tuple xs => decide (xs.length ≤ 100000) && leanAll xs
  | .dict _ => false
  | _ => true
def leanAll : List PyData → Bool
  | [] => true
  | x :: xs => lean x && leanAll xs
end
def sd__law_alike : Nat → SpD
  | 0 => fun _ _ _ _ => False
  | k + 1 => fun ds G R _ => ∃ (x y : D) (t : PyData), ds = [x, y] ∧ Rdd G x t ∧ Rdd G y t ∧ t.depth ≤ k ∧ lean t = true ∧ R (.bl true) G
def b__law_off : DSt :=
  (sSeq (sIf (dAnd (dTest (dOp dEq (dOp dIx (dVar 0) (dC (.int 1))) (dC (.int 0)))) (dTest (dOp dGt (dCB dLen (dCons (dVar 0) dNil)) (dC (.int 2))))) (sAsg (dBM "list" mPopAt (dVar 0) (dCons (dC (.int 2)) dNil)) (gS (dVar 0) (dC (.int 1)) dSetL)) sNext)
  (sSeq (sIf (dTest (dOp dGt (dOp dIx (dVar 0) (dC (.int 1))) (dC (.int 0)))) (sSeq (sAsg (dOp dMod (dOp dIx (dVar 0) (dC (.int 1))) (dVar 1)) (gN 2))
  (sSeq (sAsg (dOp dFdiv (dOp dIx (dVar 0) (dC (.int 1))) (dVar 1)) (gS (dVar 0) (dC (.int 1)) dSetL))
  (sRet (dVar 2)))) sNext)
  (sSeq (sAsg (dOp dMod (dOp dAdd (dOp dMul (dOp dIx (dVar 0) (dC (.int 0))) (dC (.int 48271))) (dC (.int 11))) (dC (.int 2147483647))) (gS (dVar 0) (dC (.int 0)) dSetL))
  (sRet (dOp dMod (dOp dFdiv (dOp dIx (dVar 0) (dC (.int 0))) (dC (.int 64))) (dVar 1))))))
abbrev N__law_off : List Str := ["_law_d", "_law_most", "_law_found"]
def b__law_dice : DSt :=
  (sSeq (sAsg (dVar 1) (gN 2))
  (sSeq (sFor (iSq (dVar 0)) (gN 3) (sAsg (dOp dMod (dOp dAdd (dOp dMul (dVar 2) (dC (.int 31))) (dCB dAbs (dCons (dVar 3) dNil))) (dC (.int 2147483647))) (gN 2)))
  (sRet (dOp dAdd (dLst (dCons (dVar 2) (dCons (dC (.int 0)) dNil))) (dLc (iSq (dVar 0)) (gN 3) (dTest (dOp dGe (dVar 3) (dOp dPow (dC (.int 10)) (dC (.int 18))))) (dVar 3) [3])))))
abbrev N__law_dice : List Str := ["_law_script", "_law_k", "_law_found", "_law_cell"]
def b__law_alike (k : Nat) : DSt :=
  (sSeq (sIf (dTest (dOp dIsN (dVar 1) (dC .non))) (sRet (dOp dIsN (dVar 0) (dC .non))) sNext)
  (sSeq (sIf (dTest (dCB dIsi (dCons (dVar 1) (dCons (dC (.ty "bool")) dNil)))) (sRet (dAndV (dCB dIsi (dCons (dVar 0) (dCons (dC (.ty "bool")) dNil))) (dOp dEq (dVar 0) (dVar 1)))) sNext)
  (sSeq (sIf (dTest (dCB dIsi (dCons (dVar 1) (dCons (dC (.ty "int")) dNil)))) (sRet (dAndV (dCB dIsi (dCons (dVar 0) (dCons (dC (.ty "int")) dNil))) (dAndV (dNotV (dCB dIsi (dCons (dVar 0) (dCons (dC (.ty "bool")) dNil)))) (dOp dEq (dVar 0) (dVar 1))))) sNext)
  (sSeq (sIf (dTest (dCB dIsi (dCons (dVar 1) (dCons (dC (.ty "str")) dNil)))) (sRet (dAndV (dCB dIsi (dCons (dVar 0) (dCons (dC (.ty "str")) dNil))) (dOp dEq (dVar 0) (dVar 1)))) sNext)
  (sSeq (sIf (dOr (dTest (dOp dNe (dCB dIsi (dCons (dVar 1) (dCons (dC (.ty "tuple")) dNil))) (dCB dIsi (dCons (dVar 0) (dCons (dC (.ty "tuple")) dNil))))) (dTest (dOp dNe (dCB dIsi (dCons (dVar 1) (dCons (dC (.ty "list")) dNil))) (dCB dIsi (dCons (dVar 0) (dCons (dC (.ty "list")) dNil)))))) (sRet (dC (.bl false))) sNext)
  (sSeq (sIf (dTest (dOp dNe (dCB dLen (dCons (dVar 0) dNil)) (dCB dLen (dCons (dVar 1) dNil)))) (sRet (dC (.bl false))) sNext)
  (sRet (dCB dAll (dCons (dLc (iRange1 (dCB dLen (dCons (dVar 1) dNil))) (gN 2) dYes (dCall (sd__law_alike k) (dCons (dOp dIx (dVar 0) (dVar 2)) (dCons (dOp dIx (dVar 1) (dVar 2)) dNil))) [2]) dNil)))))))))
abbrev N__law_alike : List Str := ["_law_found", "_law_due", "_law_k"]
end Cc
/-! ### lists and dicts that are done with: read as values -/
namespace Cc
open PySem PySem.Spec PyProof.Rows L2
def delD (G : DH) (a : Addr) : DH := fun b => if b = a then none else G b
theorem delD_same {G : DH} {a : Addr} : delD G a a = none := if_pos rfl
theorem delD_ne {G : DH} {a b : Addr} (h : b ≠ a) : delD G a b = G b := if_neg h
theorem delD_updD {G : DH} {a : Addr} {c : C} (h : G a = none) : delD (updD G a c) a = G := by
  funext b
  unfold delD updD
  split
  · rename_i e; subst e; exact h.symm
  · rfl
theorem delD_put {G : DH} {a b : Addr} {c : C} (h : b ≠ a) : delD (updD G b c) a = updD (delD G a) b c := by
  funext x
  unfold delD updD
  by_cases h1 : x = a
  · subst h1
    simp [Ne.symm h]
  · simp [h1]
theorem updD_comm {G : DH} {a b : Addr} {c d : C} (h : a ≠ b) : updD (updD G a c) b d = updD (updD G b d) a c := by
  funext x
  unfold updD
  by_cases h1 : x = b
  · subst h1
    rw [if_pos rfl, if_neg (Ne.symm h), if_pos rfl]
  · rw [if_neg h1, if_neg h1]
theorem updD_id {G : DH} {a : Addr} {c : C} (h : G a = some c) : updD G a c = G := by
  funext x
  unfold updD
  split
  · rename_i e; subst e; exact h.symm
  · rfl
theorem Sub.del {G : DH} {a : Addr} : Sub (delD G a) G := fun b c h => by
  by_cases hb : b = a
  · subst hb; rw [delD_same] at h; cases h
  · rw [delD_ne hb] at h; exact h
section
variable {K : KT} {H H' : Hp} {G G' : DH} {a p : Addr} {c : C} {o o0 u : HO} {od : Obj}
theorem HRel.frz (h : HRel K G H) (e : H p = some u) (w : Wr u) : HRel K (delD G p) (upd H p (.frz od u)) := ⟨fun a c q => by
  by_cases hb : a = p
  · subst hb; rw [delD_same] at q; cases q
  · rw [delD_ne hb] at q
    exact (h a c q).stay (Up.put e w) (upd_ne hb), tabs_put h.t e w⟩
theorem HRel.dv_frz (h : HRel K G H) {l : List D} (q : G p = some (.lst l)) : ∃ u, H p = some u ∧ Wr u ∧ Mut (some u) ∧ ∀ od, Dv K (upd H p (.frz od u)) (.ref p) (.rol l) := by
  obtain ⟨xs, e, r⟩ := h p _ q
  exact ⟨_, e, trivial, trivial, fun od => .rol ⟨od, upd_same⟩ (r.up (Up.put e trivial))⟩
theorem HRel.dv_frzK (h : HRel K G H) {l : List (Key × D)} (q : G p = some (.dK l)) : ∃ u, H p = some u ∧ Wr u ∧ Mut (some u) ∧ ∀ od, Dv K (upd H p (.frz od u)) (.ref p) (.rod l) := by
  obtain ⟨xs, e, r⟩ := h p _ q
  exact ⟨_, e, trivial, trivial, fun od => .rod ⟨od, upd_same⟩ (DvK.of (r.up (Up.put e trivial)))⟩
end
/-! at the library's side -/
def tFrz (t : TE) : TE := fun σ H Q => t σ H fun v H1 => Q v H1 ∨ ∃ d u, H1 d = some u ∧ Mut (some u) ∧ ∀ od, Q v (upd H1 d (.frz od u))
theorem pe_frz {X : Cx} {e : Expr} {t : TE} (h : PE X e t) : PE X e (tFrz t) := ⟨fun pins s σ H Q I hw => thn (h.run pins s σ H _ I hw) fun v s1 ⟨x, H1, I1, r, q⟩ => by
  rcases q with q | ⟨d, u, e1, mu, q⟩
  · exact ⟨x, H1, I1, r, q⟩
  · obtain ⟨od, I2⟩ := I1.lock e1 mu
    exact ⟨x, _, I2, r, q od⟩⟩
def sFrz (t : TS) : TS := fun D σ H => t D σ H ∨ ∃ d u, H d = some u ∧ Mut (some u) ∧ ∀ od, t D σ (upd H d (.frz od u))
theorem ps_frz {X : Cx} {st : Stmt} {t : TS} (h : PS X st t) : PS X st (sFrz t) := ⟨fun pins s σ H D I hw => by
  rcases hw with hw | ⟨d, u, e1, mu, q⟩
  · exact h.run pins s σ H D I hw
  · obtain ⟨od, I2⟩ := I.lock e1 mu
    exact h.run pins s σ _ D I2 (q od)⟩
theorem pss_frz {X : Cx} {st : List Stmt} {t : TS} (h : PSs X st t) : PSs X st (sFrz t) := ⟨fun pins s σ H D I hw => by
  rcases hw with hw | ⟨d, u, e1, mu, q⟩
  · exact h.run pins s σ H D I hw
  · obtain ⟨od, I2⟩ := I.lock e1 mu
    exact h.run pins s σ _ D I2 (q od)⟩
/-- a statement behind whose plain end something is locked -/
def sFrzN (t : TS) : TS := fun D σ H => t { D with nx := fun σ' H1 => D.nx σ' H1 ∨ ∃ d u, H1 d = some u ∧ Mut (some u) ∧ ∀ od, D.nx σ' (upd H1 d (.frz od u)) } σ H
theorem ps_frzN {X : Cx} {st : Stmt} {t : TS} (h : PS X st t) : PS X st (sFrzN t) := ⟨fun pins s σ H D I hw => thn (h.run pins s σ H _ I hw) fun f s1 q => by
  cases f with
  | next =>
    obtain ⟨σ', H', I2, q⟩ := q
    rcases q with q | ⟨d, u, e1, mu, q⟩
    · exact ⟨σ', H', I2, q⟩
    · obtain ⟨od, I3⟩ := I2.lock e1 mu
      exact ⟨σ', _, I3, q od⟩
  | brk => exact q
  | cont => exact q
  | ret v => exact q⟩
/-! the readings -/
def fzv (R : DK) : DK := fun v G => match v with
  | .ref p => (match G p with
    | some (.lst l) => R (.rol l) (delD G p)
    | some (.dK kvs) => R (.rod kvs) (delD G p)
    | _ => R v G)
  | _ => R v G
def dFz (de : DE) : DE := fun δ G R EX => de δ G (fzv R) EX
section
variable {X : Cx} {E : EK} {e : Expr} {de : DE} {st : Stmt} {sts : List Stmt} {t : DSt}
theorem clo_fz {K : KT} {H : Hp} {Q : VK} {R : DK} (cr : CloR K H Q R) : CloR K H (fun v H1 => Q v H1 ∨ ∃ d u, H1 d = some u ∧ Mut (some u) ∧ ∀ od, Q v (upd H1 d (.frz od u))) (fzv R) := fun v H1 d G1 u1 h1 r1 q1 => by
  unfold fzv at q1
  split at q1
  · rename_i p
    split at q1
    · rename_i l e
      cases r1
      obtain ⟨u, e1, w, mu, r⟩ := h1.dv_frz e
      exact .inr ⟨p, u, e1, mu, fun od => cr _ _ _ _ (u1.trans (Up.put e1 w)) (h1.frz e1 w) (r od) q1⟩
    · rename_i l e
      cases r1
      obtain ⟨u, e1, w, mu, r⟩ := h1.dv_frzK e
      exact .inr ⟨p, u, e1, mu, fun od => cr _ _ _ _ (u1.trans (Up.put e1 w)) (h1.frz e1 w) (r od) q1⟩
    · exact .inl (cr _ _ _ _ u1 h1 r1 q1)
  · exact .inl (cr _ _ _ _ u1 h1 r1 q1)
theorem pd_frz (h : PD X E e de) : PD X E e (dFz de) := ⟨imE (pe_frz h.pe) fun σ H Q ⟨δ, G, R, EX, sr, hr, h, cr, cx⟩ => ⟨δ, G, _, EX, sr, hr, h, clo_fz cr, cx⟩⟩
/-- what is more is forgotten -/
def dFg (de : DE) : DE := fun δ G R EX => de δ G (frg R) EX
theorem pd_frg (h : PD X E e de) : PD X E e (dFg de) := ⟨imE h.pe fun σ H Q ⟨δ, G, R, EX, sr, hr, h, cr, cx⟩ => ⟨δ, G, _, EX, sr, hr, h, clo_frg cr, cx⟩⟩
theorem pd_imp {d2 : DE} (h : PD X E e de) (k : ∀ δ G R EX, d2 δ G R EX → de δ G R EX) : PD X E e d2 := ⟨imE h.pe fun σ H Q ⟨δ, G, R, EX, sr, hr, h, cr, cx⟩ => ⟨δ, G, R, EX, sr, hr, k _ _ _ _ h, cr, cx⟩⟩
theorem pds_imp {t2 : DSt} (h : PDS X E st t) (k : ∀ D δ G, t2 D δ G → t D δ G) : PDS X E st t2 := ⟨imS h.ps fun Dn σ H ⟨δ, G, DD, sr, hr, h, cn, ct, cb, cc, cx⟩ => ⟨δ, G, DD, sr, hr, k _ _ _ h, cn, ct, cb, cc, cx⟩⟩
/-- ahead of a statement a local list (dict) is read as a value from here on -/
def sFz (i : Nat) (t : DSt) : DSt := fun D δ G => match δ[i]? with
  | some (some (.ref p)) => (match G p with
    | some (.lst l) => t D (δ.set i (some (.rol l))) (delD G p)
    | some (.dK kvs) => t D (δ.set i (some (.rod kvs))) (delD G p)
    | _ => t D δ G)
  | _ => t D δ G
theorem SRel.reread {K : KT} {H : Hp} {σ : L2.St} {δ : DS} {i : Nat} {d d' : D} (h : SRel K H σ δ) (e : δ[i]? = some (some d)) (k : ∀ v, Dv K H v d → Dv K H v d') : SRel K H σ (δ.set i (some d')) := by
  refine ⟨by rw [List.length_set]; exact h.1, fun j e2 q => ?_⟩
  by_cases hb : i = j
  · subst hb
    rw [List.getElem?_set_self (by have := List.getElem?_eq_some_iff.mp e; exact this.1)] at q
    cases q
    obtain ⟨v, h1, h2⟩ := h.2 i d e
    exact ⟨v, h1, k v h2⟩
  · rw [List.getElem?_set_ne hb] at q
    exact h.2 j e2 q
theorem pds_frz (i : Nat) (h : PDS X E st t) : PDS X E st (sFz i t) := ⟨imS (ps_frz h.ps) fun Dn σ H ⟨δ, G, DD, sr, hr, h, cn, ct, cb, cc, cx⟩ => by
  unfold sFz at h
  split at h
  · rename_i p e
    split at h
    · rename_i l eG
      obtain ⟨u, e1, w, mu, r⟩ := hr.dv_frz eG
      refine .inr ⟨p, u, e1, mu, fun od => ?_⟩
      have uw : Up H (upd H p (.frz od u)) := Up.put e1 w
      exact ⟨_, _, DD, (sr.up uw).reread e (fun v h => by cases h; exact r od), hr.frz e1 w, h, cn.up uw, ct.up uw, cb.up uw, cc.up uw, cx.up uw⟩
    · rename_i l eG
      obtain ⟨u, e1, w, mu, r⟩ := hr.dv_frzK eG
      refine .inr ⟨p, u, e1, mu, fun od => ?_⟩
      have uw : Up H (upd H p (.frz od u)) := Up.put e1 w
      exact ⟨_, _, DD, (sr.up uw).reread e (fun v h => by cases h; exact r od), hr.frz e1 w, h, cn.up uw, ct.up uw, cb.up uw, cc.up uw, cx.up uw⟩
    · exact .inl ⟨δ, G, DD, sr, hr, h, cn, ct, cb, cc, cx⟩
  · exact .inl ⟨δ, G, DD, sr, hr, h, cn, ct, cb, cc, cx⟩⟩
theorem sFz_lst {i : Nat} {t : DSt} {D : DEnds} {δ : DS} {G : DH} {p : Addr} {l : List Cc.D} (e : δ[i]? = some (some (.ref p))) (eG : G p = some (.lst l)) (h : t D (δ.set i (some (.rol l))) (delD G p)) : sFz i t D δ G := by
  unfold sFz
  rw [e]
  dsimp only
  rw [eG]
  exact h
end
/-! ### a comprehension, its list read as a value; the list that grows is out of sight -/
section
variable {X : Cx} {pins : List (Addr × Obj)} {σ : L2.St} {H : Hp} {s : Shared} {d : Addr} {u : HO}
theorem lock2 (I : Inv X pins σ H s) (h : H d = some u) (mu : Mut (some u)) : ∃ od, Inv X pins σ (upd H d (.frz od (.frz od u))) s := by
  obtain ⟨od, I1⟩ := I.lock h mu
  have x := I1.hok d _ upd_same
  obtain ⟨e, x⟩ := x
  have ne1 : ∀ b y, H b = some (.own y) → b ≠ d := fun b y q z => by subst z; rw [h] at q; cases q; exact mu
  have ne2 : ∀ b xs, H b = some (.tup xs) → b ≠ d := fun b y q z => by subst z; rw [h] at q; cases q; exact mu
  have new : ObjOk X.prog X.w (upd H d (.frz od (.frz od u))) s.heap d (.frz od (.frz od u)) := by
    refine ⟨e, e, x.stay (fun b v _ q => q) (fun b q => ?_) fun b xs q => ?_⟩
    · by_cases hb : b = d
      · subst hb; rw [upd_same] at q; cases q
      · rw [upd_ne hb] at q ⊢; exact q
    · by_cases hb : b = d
      · subst hb; rw [upd_same] at q; cases q
      · rw [upd_ne hb] at q ⊢; exact q
  exact ⟨od, I.write (x := d) (e := d) (t' := s.toks) (h' := s.heap) (by rw [h]; exact mu) (.inl rfl) (fun b v _ q => q) ⟨od, e⟩ new⟩
theorem unlock2 {od : Obj} (I : Inv X pins σ H s) (h : H d = some (.frz od (.frz od u))) (hn : ∀ o' u', X.H_0 d ≠ some (.frz o' u')) : Inv X pins σ (upd H d u) s := by
  have neH : ∀ b o, H b = some o → (∀ o' u', o ≠ .frz o' u') → b ≠ d := fun b o e hne z => by
    rw [z, h] at e
    cases e
    exact hne _ _ rfl
  have neN : ∀ b, H b = none → b ≠ d := fun b e z => by rw [z, h] at e; cases e
  refine ⟨I.ok, I.os, I.bare, ⟨I.base.keep, I.base.slot, fun b o e n hx => ?_, I.base.there, fun b xs e => ?_, fun b o x e => ?_, fun b ps e => ?_⟩, I.loc, I.cell, ?_, fun x c e => ?_, fun p hp => ?_, fun b o e => ?_, I.len⟩
  · rw [upd_ne (neN b (I.base.free b o e n hx))]; exact I.base.free b o e n hx
  · have q := I.base.tups b xs e
    rw [upd_ne (neH b _ q (fun _ _ z => nomatch z))]; exact q
  · have q := I.base.frzs b o x e
    rw [upd_ne (fun z => by rw [z] at e; exact hn _ _ e)]; exact q
  · obtain ⟨m, q⟩ := I.base.tbls b ps e
    exact ⟨m, by rw [upd_ne (neH b _ q (fun _ _ z => nomatch z))]; exact q⟩
  · rw [upd_ne (neN _ I.free)]; exact I.free
  · rw [upd_ne (neN c (I.freeC x c e))]; exact I.freeC x c e
  · obtain ⟨e, n, r⟩ := I.pin p hp
    exact ⟨e, by rw [upd_ne (neN _ n)]; exact n, r⟩
  · by_cases hb : b = d
    · rw [hb, upd_same] at e
      cases e
      rw [hb]
      obtain ⟨_, _, x⟩ := I.hok d _ h
      exact x.stay (fun c v _ q => q) (fun c q => by rw [upd_ne (neH c _ q (fun _ _ z => nomatch z))]; exact q) fun c xs q => by rw [upd_ne (neH c _ q (fun _ _ z => nomatch z))]; exact q
    · rw [upd_ne hb] at e
      exact (I.hok b o e).stay (fun c v _ q => q) (fun c q => by rw [upd_ne (neH c _ q (fun _ _ z => nomatch z))]; exact q) fun c xs q => by rw [upd_ne (neH c _ q (fun _ _ z => nomatch z))]; exact q
end
def eL2 (d : Addr) (t : TE) : TE := fun σ H Q => ∃ u, H d = some u ∧ Mut (some u) ∧ ∀ od, t σ (upd H d (.frz od (.frz od u))) fun v H' => H' d = some (.frz od (.frz od u)) ∧ Q v (upd H' d u)
def tL2 (d : Addr) (t : TT) : TT := fun σ H Q => ∃ u, H d = some u ∧ Mut (some u) ∧ ∀ od, t σ (upd H d (.frz od (.frz od u))) fun v H' => H' d = some (.frz od (.frz od u)) ∧ Q v (upd H' d u)
def gL2 (d : Addr) (t : TG) : TG := fun v σ H Q => ∃ u, H d = some u ∧ Mut (some u) ∧ ∀ od, t v σ (upd H d (.frz od (.frz od u))) fun σ' H' => H' d = some (.frz od (.frz od u)) ∧ Q σ' (upd H' d u)
def eL (t : TE) : TE := fun σ H Q => ∃ d, eL2 d t σ H Q
def tL (t : TT) : TT := fun σ H Q => ∃ d, tL2 d t σ H Q
def gL (t : TG) : TG := fun v σ H Q => ∃ d, gL2 d t v σ H Q
section
variable {X : Cx} {e : Expr} {ifs : List Expr} {t : TE} {tt : TT} {g : TG}
theorem pe_L (h : PE X e t) : PE X e (eL t) := ⟨fun pins s σ H Q I ⟨d, u, hd, mu, hw⟩ => by
  obtain ⟨od, I1⟩ := lock2 I hd mu
  exact thn (h.run pins s σ _ _ I1 (hw od)) fun v s1 ⟨x, H1, I2, r, e2, q⟩ => ⟨x, _, unlock2 I2 e2 (I.nofrz hd mu), r, q⟩⟩
theorem pts_L (h : PTs X ifs tt) : PTs X ifs (tL tt) := ⟨fun pins s σ H Q I ⟨d, u, hd, mu, hw⟩ => by
  obtain ⟨od, I1⟩ := lock2 I hd mu
  exact thn (h.run pins s σ _ _ I1 (hw od)) fun v s1 ⟨H1, I2, e2, q⟩ => ⟨_, unlock2 I2 e2 (I.nofrz hd mu), q⟩⟩
theorem pg_L (h : PG X e g) : PG X e (gL g) := ⟨fun pins s σ H v u0 Q I r ⟨d, u, hd, mu, hw⟩ => by
  obtain ⟨od, I1⟩ := lock2 I hd mu
  exact thn (h.run pins s σ _ v u0 _ I1 r (hw od)) fun _ s1 ⟨σ', H1, I2, e2, q⟩ => ⟨σ', _, unlock2 I2 e2 (I.nofrz hd mu), q⟩⟩
end
section
variable {K : KT} {H H' H0 : Hp} {G : DH} {d : Addr} {xs : List V} {od : Obj}
theorem unl0 (e : H d = some (.frz od (.frz od (.lst xs)))) : Up0 H (upd H d (.lst xs)) := by
  refine ⟨fun a ys q => ?_, fun a o ys q => ?_, fun a o ys q => ?_⟩
  all_goals rw [upd_ne (fun z => by subst z; rw [e] at q; cases q)]; exact q
theorem unlT (e : H d = some (.frz od (.frz od (.lst xs)))) : ∀ a o ys, H a = some (.frz o (.tup ys)) → upd H d (.lst xs) a = some (.frz o (.tup ys)) := fun a o ys q => by
  rw [upd_ne (fun z => by subst z; rw [e] at q; cases q)]; exact q
theorem KVr.up0 {κ : Type} (u : Up0 H H') (hf : ∀ a o xs, H a = some (.frz o (.tup xs)) → H' a = some (.frz o (.tup xs))) {xs : List (κ × V)} {ys : List (κ × D)} (h : KVr K H xs ys) : KVr K H' xs ys :=
  Paired.mapP h fun _ _ q => ⟨q.1, q.2.up0 u hf⟩
theorem CRel.stay0 {a : Addr} {c : C} (u : Up0 H H') (hf : ∀ a o xs, H a = Option.some (HO.frz o (HO.tup xs)) → H' a = Option.some (HO.frz o (HO.tup xs))) (e : H' a = H a) (h : CRel K H a c) : CRel K H' a c := by
  cases c with
  | lst l => obtain ⟨xs, q, r⟩ := h; exact ⟨xs, e.trans q, r.up0 u hf⟩
  | dK l => obtain ⟨xs, q, r⟩ := h; exact ⟨xs, e.trans q, r.up0 u hf⟩
  | dT l => obtain ⟨xs, q, r⟩ := h; exact ⟨xs, e.trans q, r.up0 u hf⟩
  | ins cl fs => obtain ⟨dx, xs, q, r⟩ := h; exact ⟨dx, xs, e.trans q, r.up0 u hf⟩
  | xd l => obtain ⟨xs, q, r⟩ := h; exact ⟨xs, e.trans q, r.up0 u hf⟩
theorem CRel.noFrz {a : Addr} {c : C} (h : CRel K H a c) {o : Obj} {w : HO} (e : H a = Option.some (HO.frz o w)) : False := by
  cases c with
  | lst l => obtain ⟨xs, q, r⟩ := h; rw [e] at q; cases q
  | dK l => obtain ⟨xs, q, r⟩ := h; rw [e] at q; cases q
  | dT l => obtain ⟨xs, q, r⟩ := h; rw [e] at q; cases q
  | ins cl fs => obtain ⟨dx, xs, q, r⟩ := h; rw [e] at q; cases q
  | xd l => obtain ⟨xs, q, r⟩ := h; rw [e] at q; cases q
theorem HRel.noFrz (h : HRel K G H) {o : Obj} {w : HO} (e : H d = Option.some (HO.frz o w)) : G d = Option.none := by
  cases q : G d with
  | none => rfl
  | some c => exact (CRel.noFrz (h.c d c q) e).elim
theorem HRel.unl (h : HRel K G H) (e : H d = Option.some (HO.frz od (HO.frz od (HO.lst xs)))) : HRel K G (upd H d (.lst xs)) := ⟨fun a c q => by
  have ne : a ≠ d := fun z => by subst z; exact CRel.noFrz (h.c a c q) e
  exact CRel.stay0 (h := h.c a c q) (unl0 e) (unlT e) (upd_ne ne), fun x hx => by
  obtain ⟨ps, h1, h2, h3⟩ := h.t x hx
  refine ⟨ps, ?_, h2, fun pos cv z => ?_⟩
  · rw [upd_ne (fun z => by subst z; rw [e] at h1; cases h1)]; exact h1
  · obtain ⟨c0, e1, e2⟩ := h3 pos cv z
    exact ⟨c0, e1, by rw [upd_ne (fun z => by subst z; rw [e] at e2; cases e2)]; exact e2⟩⟩
/-- out of sight: another thing at d -/
theorem HRel.hid (h : HRel K G H) (n : G d = Option.none) {u o : HO} (e : H d = some u) (w : Wr u) : HRel K G (upd H d o) := ⟨fun a c q => by
  have ne : a ≠ d := fun z => by subst z; rw [n] at q; cases q
  exact (h a c q).stay (Up.put e w) (upd_ne ne), tabs_put h.t e w⟩
/-- from ahead of d's making to behind its unlocking -/
theorem Up.unl (u : Up H0 H) (n : H0 d = Option.none) : Up H0 (upd H d (.lst xs)) := by
  refine ⟨fun a ys q => ?_, fun a o w q => ?_, fun a c q => ?_⟩
  · rw [upd_ne (ne_of_none q n)]; exact u.tups _ _ q
  · rw [upd_ne (ne_of_none q n)]; exact u.frzs _ _ _ q
  · rw [upd_ne (ne_of_none q n)]; exact u.code _ _ q
theorem SRel.up0 {σ : L2.St} {δ : DS} (u : Up0 H H') (hf : ∀ a o xs, H a = some (.frz o (.tup xs)) → H' a = some (.frz o (.tup xs))) (h : SRel K H σ δ) : SRel K H' σ δ := ⟨h.1, fun i d e => by
  obtain ⟨v, a, b⟩ := h.2 i d e
  exact ⟨v, a, b.up0 u hf⟩⟩
end
def goLcF (ok : DH → Prop) (g : DG) (tt : DT) (te : DE) (k : List D → DH → Prop) (δ : DS) : List D → List D → DH → Prop
  | acc, [], G => ok G ∧ k acc G
  | acc, x :: xs, G => ok G ∧ g x δ G (fun δ2 G2 => tt δ2 G2 (fun b G3 => if b = true then te δ2 G3 (fun y G4 => acc.length < sizeLine ∧ goLcF ok g tt te k δ (acc ++ [y]) xs G4) noX else goLcF ok g tt te k δ acc xs G3) noX) noX
def dLcF (di : DI) (g : DG) (tt : DT) (te : DE) (vs : List Nat) : DE := fun δ G R EX => di δ G (fun l ok G1 => goLcF ok g tt te (fun acc G => R (.rol acc) G) (wipeD δ vs) [] l G1) EX
theorem ct_L {vs : List Nat} {g : TG} (h : CT vs g) : CT vs (gL g) := fun v σ H Q ⟨d, u, e, mu, q⟩ => ⟨d, u, e, mu, fun od => by
  have z := h _ _ _ _ (q od)
  have m : ∀ {P P' : L2.St → Hp → Prop}, (∀ a b, P a b → P' a b) → P = P' ∨ True := fun _ => .inr trivial
  have e2 : (fun σ2 H2 => wipe σ2 vs = wipe σ vs ∧ H2 d = some (.frz od (.frz od u)) ∧ Q σ2 (upd H2 d u)) = (fun σ' H' => H' d = some (.frz od (.frz od u)) ∧ wipe σ' vs = wipe σ vs ∧ Q σ' (upd H' d u)) := by
    funext a b
    exact propext ⟨fun ⟨a, b, c⟩ => ⟨b, a, c⟩, fun ⟨a, b, c⟩ => ⟨b, a, c⟩⟩
  rw [e2] at z
  exact z⟩
def DvStay (K : KT) (H H' : Hp) : Prop := ∀ v d, Dv K H v d → Dv K H' v d
/-- from a state with the list at Z in the open to another one -/
structure Past (K : KT) (Z : Addr) (xs : List V) (H H' : Hp) : Prop where
  up : ∀ H0, Up H0 H → H0 Z = none → Up H0 H'
  at_ : H' Z = some (.lst xs)
  dv : ∀ v d, Dv K H v d → Dv K H' v d
theorem past {K : KT} {Z : Addr} {xs : List V} {H H1 : Hp} {od : Obj} (e : H Z = some (.lst xs)) (u : Up (upd H Z (.frz od (.frz od (.lst xs)))) H1) : H1 Z = some (.frz od (.frz od (.lst xs))) ∧ Past K Z xs H (upd H1 Z (.lst xs)) := by
  have uw : Up H (upd H Z (.frz od (.frz od (.lst xs)))) := Up.put e trivial
  have e2 := u.frzs _ _ _ (upd_same (H := H) (a := Z) (o := .frz od (.frz od (.lst xs))))
  exact ⟨e2, fun H0 u0 n0 => Up.unl ((u0.trans uw).trans u) n0, upd_same, fun v d z => ((z.up uw).up u).up0 (unl0 e2) (unlT e2)⟩
theorem Past.dvl {K : KT} {Z : Addr} {xs : List V} {H H' : Hp} (p : Past K Z xs H H') : ∀ {vs : List V} {ds : List D}, DvL K H vs ds → DvL K H' vs ds
  | _, _, .nil => .nil
  | _, _, .cons h r => .cons (p.dv _ _ h) (p.dvl r)
theorem wg_L {K : KT} {g : DG} {g0 : TG} (lg : ∀ v σ H Q, upG K noE g v σ H Q → g0 v σ H Q) {Z : Addr} {xs : List V} {v : V} {d : D} {σ : L2.St} {δ : DS} {H : Hp} {G : DH} {R : DS → DH → Prop} {Q : L2.St → Hp → Prop} (e : H Z = some (.lst xs)) (n : G Z = none)
    (dv : Dv K H v d) (sr : SRel K H σ δ) (hr : HRel K G H) (h : g d δ G R noX)
    (k : ∀ σ' H' δ' G', Past K Z xs H H' → SRel K H' σ' δ' → HRel K G' H' → G' Z = none → R δ' G' → Q σ' H') : gL g0 v σ H Q := by
  refine ⟨Z, _, e, trivial, fun od => lg _ _ _ _ ?_⟩
  have uw : Up H (upd H Z (.frz od (.frz od (.lst xs)))) := Up.put e trivial
  refine ⟨d, δ, G, R, noX, dv.up uw, sr.up uw, hr.hid n e trivial, h, fun σ' H' δ' G' u s2 h2 q => ?_, CloX.no⟩
  obtain ⟨e2, p⟩ := past (K := K) e u
  exact ⟨e2, k _ _ _ _ p (s2.up0 (unl0 e2) (unlT e2)) (h2.unl e2) (h2.noFrz e2) q⟩
theorem wt_L {K : KT} {tt : DT} {Z : Addr} {xs : List V} {σ : L2.St} {δ : DS} {H : Hp} {G : DH} {R : Bool → DH → Prop} {Q : Bool → Hp → Prop} (e : H Z = some (.lst xs)) (n : G Z = none)
    (sr : SRel K H σ δ) (hr : HRel K G H) (h : tt δ G R noX)
    (k : ∀ b H' G', Past K Z xs H H' → SRel K H' σ δ → HRel K G' H' → G' Z = none → R b G' → Q b H') : tL (upT K noE tt) σ H Q := by
  refine ⟨Z, _, e, trivial, fun od => ?_⟩
  have uw : Up H (upd H Z (.frz od (.frz od (.lst xs)))) := Up.put e trivial
  refine ⟨δ, G, R, noX, sr.up uw, hr.hid n e trivial, h, fun b H' G' u h2 q => ?_, CloX.no⟩
  obtain ⟨e2, p⟩ := past (K := K) e u
  exact ⟨e2, k _ _ _ p (((sr.up uw).up u).up0 (unl0 e2) (unlT e2)) (h2.unl e2) (h2.noFrz e2) q⟩
theorem we_L {K : KT} {te : DE} {Z : Addr} {xs : List V} {σ : L2.St} {δ : DS} {H : Hp} {G : DH} {R : DK} {Q : VK} (e : H Z = some (.lst xs)) (n : G Z = none)
    (sr : SRel K H σ δ) (hr : HRel K G H) (h : te δ G R noX)
    (k : ∀ v d H' G', Past K Z xs H H' → Dv K H' v d → HRel K G' H' → G' Z = none → R d G' → Q v H') : eL (up K noE te) σ H Q := by
  refine ⟨Z, _, e, trivial, fun od => ?_⟩
  have uw : Up H (upd H Z (.frz od (.frz od (.lst xs)))) := Up.put e trivial
  refine ⟨δ, G, R, noX, sr.up uw, hr.hid n e trivial, h, fun v H' d G' u h2 r q => ?_, CloX.no⟩
  obtain ⟨e2, p⟩ := past (K := K) e u
  exact ⟨e2, k _ _ _ _ p (r.up0 (unl0 e2) (unlT e2)) (h2.unl e2) (h2.noFrz e2) q⟩
theorem up_lcF {E : XK} {di : DI} {g : DG} {dA : DT} {de : DE} {vs : List Nat} {g0 : TG} {K : KT} (cg : CT vs g0) (lg : ∀ v σ H Q, upG K noE g v σ H Q → g0 v σ H Q) {σ : L2.St} {H : Hp} {Q : VK} : up K E (dLcF di g dA de vs) σ H Q → tLc (upI K E di) (gL g0) (tL (upT K noE dA)) (eL (up K noE de)) vs σ H (fun v H1 => Q v H1 ∨ ∃ d u, H1 d = some u ∧ Mut (some u) ∧ ∀ od, Q v (upd H1 d (.frz od u))) := fun ⟨δ, G, R, EX, sr, hr, h, cr, cx⟩ => by
  refine ⟨δ, G, _, EX, sr, hr, h, fun J l ok H0 G0 u0 h0 so q0 => ?_, cx⟩
  intro Z hZ
  have sr0 := sr.up u0
  have uZ : Up H0 (upd H0 Z (.lst [])) := Up.new hZ
  refine ⟨fun i m H => m = l.length - i ∧ i ≤ l.length ∧ ∃ G acc xs, HRel K G H ∧ Up H0 H ∧ G Z = none ∧ H Z = some (.lst xs) ∧ DvL K H xs acc ∧ goLcF ok g dA de (fun acc G => R (.rol acc) G) (wipeD δ vs) acc (l.drop i) G,
    ⟨l.length, by simp, Nat.zero_le _, G0, [], [], h0.new0 hZ, uZ, h0.none hZ, upd_same, .nil, by simpa using q0⟩, ?_⟩
  rintro i m H1 ⟨rfl, hi, G1, acc, xs, h1, u1, n1, e1, r1, q1⟩
  by_cases hlt : i < l.length
  · rw [List.drop_eq_getElem_cons hlt] at q1
    obtain ⟨k1, q1⟩ := q1
    have h1Z : HRel K (updD G1 Z (.lst acc)) H1 := ⟨fun a c q => by
      by_cases hb : a = Z
      · subst hb; rw [updD_same] at q; cases q; exact ⟨xs, e1, r1⟩
      · rw [updD_ne hb] at q; exact h1.c a c q, h1.t⟩
    obtain ⟨gx, yx⟩ := (so.at_ i H1 _ u1 h1Z (so.mono _ _ (Sub.new n1) k1)).1 hlt
    let NX : Hp → Prop := fun H2 => ∃ G2 acc xs, HRel K G2 H2 ∧ Up H0 H2 ∧ G2 Z = none ∧ H2 Z = some (.lst xs) ∧ DvL K H2 xs acc ∧ goLcF ok g dA de (fun acc G => R (.rol acc) G) (wipeD δ vs) acc (l.drop (i + 1)) G2
    refine .inr ⟨gx, NX, fun H2 ⟨G2, a, b, c, d⟩ => ⟨l.length - (i + 1), by omega, rfl, hlt, G2, a, b, c, d⟩, fun x H2 y => ?_⟩
    obtain ⟨d, ed, u2, h2Z, r2⟩ := yx x H2 y
    rw [List.getElem?_eq_getElem hlt] at ed
    cases ed
    obtain ⟨xs2, e2, rx2⟩ := h2Z.c Z _ updD_same
    have h2 : HRel K G1 H2 := h2Z.sub (Sub.new n1)
    have u12 := u1.trans u2
    have s2 : SRel K H2 (L2.wipe σ vs) (wipeD δ vs) := (sr0.up u12).wipe vs
    have cw := ct_L cg x (wipe σ vs) H2 (fun σ3 H3 => tL (upT K noE dA) σ3 H3 fun b H4 => if b = true then eL (up K noE de) σ3 H4 fun y H5 => ∃ acc, H5 Z = some (.lst acc) ∧ acc.length < sizeLine ∧ NX (upd H5 Z (.lst (acc ++ [y]))) else NX H4)
      (wg_L lg e2 n1 r2 s2 h2 q1 fun σ3 H3 δ3 G3 p3 s3 h3 n3 q3 => wt_L p3.at_ n3 s3 h3 q3 fun b H4 G4 p4 s4 h4 n4 q4 => ?_)
    · rw [wipe_wipe] at cw
      exact cw
    · cases b with
      | true =>
        rw [if_pos rfl] at q4
        refine iteT ?_
        refine we_L p4.at_ n4 s4 h4 q4 fun y dy H5 G5 p5 r5 h5 n5 q5 => ?_
        have uw : Up H5 (upd H5 Z (.lst (xs2 ++ [y]))) := Up.put p5.at_ trivial
        have r5L : DvL K H5 xs2 acc := p5.dvl (p4.dvl (p3.dvl rx2))
        refine ⟨xs2, p5.at_, by rw [r5L.length]; exact q5.1, G5, acc ++ [dy], xs2 ++ [y], h5.hid n5 p5.at_ trivial, ?_, n5, upd_same, (r5L.up uw).append (.cons (r5.up uw) .nil), q5.2⟩
        exact (p5.up _ (p4.up _ (p3.up _ u12 hZ) hZ) hZ).trans uw
      | false =>
        rw [if_neg Bool.false_ne_true] at q4
        refine iteF ?_
        exact ⟨G4, acc, xs2, h4, p4.up _ (p3.up _ u12 hZ) hZ, n4, p4.at_, p4.dvl (p3.dvl rx2), q4⟩
  · have e : i = l.length := by omega
    subst e
    rw [List.drop_length] at q1
    refine .inl ⟨(so.at_ _ H1 G1 u1 h1 q1.1).2 (Nat.le_refl _), .inr ⟨Z, _, e1, trivial, fun od => ?_⟩⟩
    have uw : Up H1 (upd H1 Z (.frz od (.lst xs))) := Up.put e1 trivial
    exact cr _ _ _ _ ((u0.trans u1).trans uw) (h1.hid n1 e1 trivial) (.rol ⟨od, upd_same⟩ (r1.up uw)) q1.2
section
variable {X : Cx} {E : EK} {pos : Pos}
theorem pd_lcF {elt tg iter : Expr} {ifs : List Expr} {scope : Scope} {own : List (Str × Nat)} {di : DI} {g : DG} {tt : DT} {te : DE} (hc : X.calm = true) (hN : X.N.Nodup) (hi : PDI X E tg iter di) (ok : BlkOk X.N X.env.scope scope own)
    (B : BlkP X E scope (own.map (·.2)) tg elt ifs g tt te) (hs : ∀ x, foldedSetIterable iter X.env x = pure x := by intro _; rfl) : PD X E (.ListComp elt [⟨tg, iter, ifs, 0⟩] scope pos) (dLcF di g tt te (own.map (·.2))) := by
  obtain ⟨g0, c0, l0, p0⟩ := B.g
  exact ⟨imE (pe_frz (pe_lc hc hN hi.pi ok (fun s H C cl fp => pg_L (p0 s H C cl fp)) (fun s H C cl fp => pts_L (B.t s H C cl fp).ts) (fun s H C cl fp => pe_L (B.e s H C cl fp).pe) hs)) fun _ _ _ => up_lcF c0 l0⟩
theorem pds_setLcF {i : Nat} {y : Str} {py spos : Pos} {elt tg iter : Expr} {ifs : List Expr} {scope : Scope} {own : List (Str × Nat)} {di : DI} {g : DG} {tt : DT} {te : DE} (hc : X.calm = true) (hN : X.N.Nodup) (hy : X.N[i]? = some y) (hyl : X.env.scope.names.lookup y = some .local)
    (hsw : swapsWith (.ListComp elt [⟨tg, iter, ifs, 0⟩] scope pos) (some (.Name y py)) spos.line X.env = pure true) (hi : PDI X E tg iter di) (ok : BlkOk X.N X.env.scope scope own)
    (B : BlkP X E scope (own.map (·.2)) tg elt ifs g tt te) (hs : ∀ x, foldedSetIterable iter X.env x = pure x := by intro _; rfl) : PDS X E (.Assign [.Name y py] (.ListComp elt [⟨tg, iter, ifs, 0⟩] scope pos) spos) (sAsg (dLcF di g tt te (own.map (·.2))) (gN i)) := by
  obtain ⟨g0, c0, l0, p0⟩ := B.g
  refine ⟨imS (ps_frzN (ps_setLc (te := eL (up (kt X E) noE te)) (tt := tL (upT (kt X E) noE tt)) hc hN hy hyl hsw hi.pi ok (fun s H C cl fp => pg_L (p0 s H C cl fp)) (fun s H C cl fp => pts_L (B.t s H C cl fp).ts) (fun s H C cl fp => pe_L (B.e s H C cl fp).pe) hs)) fun Dn σ H ⟨δ, G, DD, sr, hr, h, cn, ct, cb, cc, cx⟩ => ?_⟩
  have z := up_lcF (Q := fun v H1 => Dn.nx (σ.set i (some v)) H1) c0 l0 ⟨δ, G, _, DD.ex, sr, hr, h, fun v H1 d G1 u1 h1 r1 q1 => cn _ _ _ _ u1 ((sr.up u1).set r1) h1 q1, cx⟩
  exact z
end
end Cc
/-! ### operators whose new lists are read as values; sorting of lists and tuples -/
namespace PySem.W
open PySem PySem.Spec PyProof.Rows
section
variable {prog : Program} {w : World} {A : Around} {E : Value → Shared → Prop} {s : Shared}
theorem cc_collect {T : String} {l : Addr} {o : Obj} {vs : List Value} {n : Nat} {Q : List Value → Shared → Prop} (hT : T = "list" ∨ T = "tuple") (ho : s.heap.get? l = some o) (hc : o.cls = .type T) (hd : o.data = .seq vs.toArray n)
    (h : Q vs { s with heap := (s.heap.push (seqObj "list" #[] 0)).update s.heap.objs.size (Obj.mapSeq (· ++ vs.toArray)) }) (hsz : vs.length ≤ sizeLine) :
    wpAny (model prog w) A (collect (.ref l)) Q E s := by
  unfold collect
  refine wpAny_bind (wpAny_runValue (codeAny_builtin entry_proto_collect' ?_))
  show wpAny _ _ (do again (.builtin "list.__iadd__" ⟨[← newList [], .ref l], []⟩)) _ _ s
  refine wpAny_bind (wpAny_newList (wpAny_pure ⟨Code.quiet_builtin _ (by decide +kernel), codeAny_builtin entry_list_iadd' ?_⟩))
  show wpAny _ _ (Builtin.List.listExtendWith (.ref s.heap.objs.size) (.ref l) (.ref s.heap.objs.size)) _ _ { s with heap := s.heap.push (seqObj "list" #[] 0) }
  unfold Builtin.List.listExtendWith
  have ho' : (s.heap.push (seqObj "list" #[] 0)).get? l = some o := Heap.get?_push_of_some _ ho
  refine wpAny_bind (wpAny_typeOf (T := T) ⟨o, ho', hc⟩ ?_)
  rw [if_pos (by rcases hT with rfl | rfl <;> simp)]
  refine wpAny_bind (listItems_at ho' hd ?_)
  refine wpAny_bind (listItems_at (xs := #[]) (n := 0) (Heap.get?_push_size _ rfl) rfl ?_)
  rw [if_neg (by simp)]
  refine wpAny_bind (listUpdate_at (xs := #[]) (n := 0) (Heap.get?_push_size _ rfl) rfl ?_ (Nat.zero_le _) (by show (#[] ++ vs.toArray).size ≤ sizeLine + 1; simp only [Array.size_append, List.size_toArray, List.length_nil]; omega))
  refine wpAny_pure ?_
  show wpAny (model prog w) A (do
      let o ← load s.heap.objs.size
      match o.data with
      | .seq xs _ => pure xs.toList
      | _ => unsupported "internal:collect") Q E { s with heap := (s.heap.push (seqObj "list" #[] 0)).update s.heap.objs.size (Obj.mapSeq (· ++ vs.toArray)) }
  refine wpAny_bind (wpAny_load (get?_update_seq (Heap.get?_push_size _ rfl) _) ?_)
  show wpAny _ _ (pure ((#[] : Array Value) ++ vs.toArray).toList) Q E _
  rw [show ((#[] : Array Value) ++ vs.toArray).toList = vs by simp]
  exact wpAny_pure h
theorem cc_sorted {T : String} {l : Addr} {o : Obj} {vs : List Value} {n : Nat} {kw : List (Str × Value)} {Q : Value → Shared → Prop} (hT : T = "list" ∨ T = "tuple") (ho : s.heap.get? l = some o) (hc : o.cls = .type T) (hd : o.data = .seq vs.toArray n)
    (hL : vs.length ≤ sizeLine) (ha1 : argsOk "sorted" ⟨[.ref l], kw⟩) (ha2 : ∀ x, argsOk "list.sort" ⟨[.ref x], kw⟩)
    (body : ∀ E' : Value → Shared → Prop, wpAny (model prog w) A.in1.in1 (Builtin.«list.sort» ⟨[.ref (s.heap.objs.size + 1)], kw⟩) (fun f s' => f = .done (.ret .none) ∧ Q (.ref (s.heap.objs.size + 1)) s') E' { s with heap := copyHeap s.heap vs }) :
    wpAny (model prog w) A (call (.builtin "sorted") [.ref l] kw) Q E s := by
  refine call_function_entry_kw kind_sorted plain_sorted entry_sorted ha1 ?_
  unfold Builtin.«sorted»
  refine wpAny_bind (m := checkCount "sorted" 1 1 _) (wpAny_pure ?_)
  refine wpAny_bind (cc_collect hT ho hc hd ?_ hL)
  refine wpAny_bind (wpAny_newList ?_ hL)
  have hsz : ((s.heap.push (seqObj "list" #[] 0)).update s.heap.objs.size (Obj.mapSeq (· ++ vs.toArray))).objs.size = s.heap.objs.size + 1 := by
    rw [Heap.size_update, size_push']
  show wpAny _ _ _ _ _ { s with heap := copyHeap s.heap vs }
  rw [hsz]
  refine wpAny_bind (wpAny_holding (wpAny_call_entry_kw slot_list_sort ⟨_, copyHeap_at s.heap vs, rfl⟩ entry_list_sort ?body (ha2 _)))
  case body =>
    show wpAny (model prog w) A.in1.in1 (Builtin.«list.sort» ⟨[.ref (s.heap.objs.size + 1)], kw⟩) _ _ _
    refine wpAny_mono (body _) (fun f s' hf => ?_) fun _ _ e => e
    obtain ⟨rfl, hq⟩ := hf
    exact ⟨_, rfl, wpAny_pure ⟨_, rfl, hq⟩⟩
variable {β : Type} {vs : List Value} {bs : List β} {R : Value → β → Prop} {enc : β → PyData}
theorem cc_sorted_data {T : String} {l : Addr} {o : Obj} {n : Nat} {Q : Value → Shared → Prop} (hT : T = "list" ∨ T = "tuple") (ho : s.heap.get? l = some o) (hc : o.cls = .type T) (hd : o.data = .seq vs.toArray n) (e : EachIs R vs bs) (er : EachIs (fun v b => ∃ as, Reads s.heap v (enc b) as) vs bs) (hal : AllAlike (bs.map enc)) (hk : Sortable (bs.map enc)) (hL : bs.length ≤ sizeLine)
    (hu : ∀ b, b ∈ bs → A.units + 2 + (enc b).depth < cLine) (h : ∀ out, out.length = bs.length → EachIs R out (bs.mergeSort (dataLe false enc)) → Q (.ref (s.heap.objs.size + 1)) { s with heap := sortedAll s.heap vs (List.toArray out) }) :
    wpAny (model prog w) A (call (.builtin "sorted") [.ref l]) Q E s := by
  have er' : EachIs (fun v b => ∃ as, Reads (sortingHeap (copyHeap s.heap vs) (s.heap.objs.size + 1) vs) v (enc b) as) vs bs := er.mono fun _ _ ⟨as, r⟩ => ⟨as, PyProof.Rows.Reads.keeps (fun _ _ => sorting_copy_old) r⟩
  have S := SortsAt.data (prog := prog) (w := w) (A := A.in1.in1) (s := { s with heap := sortingHeap (copyHeap s.heap vs) (s.heap.objs.size + 1) vs }) (each_map (R := fun v d => ∃ as, Reads (sortingHeap (copyHeap s.heap vs) (s.heap.objs.size + 1) vs) v d as) enc er') hal hk (bound_map hu)
  refine cc_sorted hT ho hc hd (by rw [e.length]; exact hL) (args_sorted1 _) (fun _ => args_list_sort _) fun _ => list_sort_vals (s := { s with heap := copyHeap s.heap vs }) (copyHeap_at s.heap vs) S (by rw [e.length]; exact hL) ⟨rfl, ?_⟩
  exact h _ (by rw [sortVals_length false rfl]; exact e.length) (sortVals_data false e er' hal)
theorem cc_sorted_key {T : String} {l : Addr} {o : Obj} {n : Nat} {f : Value} {kw : List (Str × Value)} {b : Bool} {Q : Value → Shared → Prop} (k : β → PyData) (hT : T = "list" ∨ T = "tuple") (ho : s.heap.get? l = some o) (hc : o.cls = .type T) (hd : o.data = .seq vs.toArray n) (e : EachIs R vs bs) (hal : AllAlike (bs.map k)) (hk : Sortable (bs.map k)) (hL : bs.length ≤ sizeLine)
    (hu : ∀ x, x ∈ bs → A.units + 2 + (k x).depth < cLine) (ha1 : argsOk "sorted" ⟨[.ref l], kw⟩) (ha2 : ∀ x, argsOk "list.sort" ⟨[.ref x], kw⟩) (ht : ∀ x, Builtin.«list.sort» ⟨[.ref x], kw⟩ = ksk_tree x f b)
    (turn : ∀ (v : Value) (x : β), R v x → x ∈ bs → ∀ (h : Heap) (tk : Nat), (∀ b o, s.heap.get? b = some o → h.get? b = some o) →
      wpAny (model prog w) A.in1.in1 (call f [v]) (KeyPure (k x) { s with heap := h, toks := tk }) (fun _ _ => False) { s with heap := h, toks := tk })
    (h : ∀ out c h' tk, (∀ b o, s.heap.get? b = some o → h'.get? b = some o) → s.heap.get? (s.heap.objs.size + 1) = none → h'.get? (s.heap.objs.size + 1) = some (seqObj "list" (List.toArray out) c) → out.length = bs.length → EachIs R out (bs.mergeSort (dataLe b k)) →
      Q (.ref (s.heap.objs.size + 1)) { s with heap := h', toks := tk }) :
    wpAny (model prog w) A (call (.builtin "sorted") [.ref l] kw) Q E s := by
  have fresh : s.heap.get? (s.heap.objs.size + 1) = none := Heap.get?_none_of_le (Nat.le_succ _)
  have up : ∀ {g : Heap}, KeepsBut (s.heap.objs.size + 1) (copyHeap s.heap vs) g → ∀ b o, s.heap.get? b = some o → g.get? b = some o := fun {g} kp b o q =>
    kp b o (Nat.ne_of_lt (Nat.lt_succ_of_lt (Heap.lt_size q))) (copyHeap_old q)
  refine cc_sorted hT ho hc hd (by rw [e.length]; exact hL) ha1 ha2 fun E' => ?_
  rw [ht]
  refine keyH_tree (kz := bs.map k) (s := { s with heap := copyHeap s.heap vs }) (copyHeap_at s.heap vs) (by rw [List.length_map]; exact e.length.symm) (by rw [e.length]; exact hL) hal hk (bound_map (A := A.in1.in1) hu)
    (keyH_turns (s := { s with heap := copyHeap s.heap vs }) e fun v x hR hx h tk kp => turn v x hR hx h tk (up kp)) fun h' tk out c kp hD ko => ⟨rfl, ?_⟩
  exact h out c h' tk (up kp) fresh hD ((ko.length (by rw [List.length_map]; exact e.length.symm)).trans e.length) (keyedOut_each k ko e)
end
end PySem.W
namespace Cc
open PySem PySem.Spec PyProof.Rows L2
open PySem.W (EachIs AllAlike Sortable dataLe KeyPure kla_obj kla_fn envX)
/-! new lists as values: by values -/
theorem fzv_new {R : DK} {l : List D} {G : DH} (h : R (.rol l) G) : ∀ p, G p = none → fzv R (.ref p) (updD G p (.lst l)) := fun p hp => by
  unfold fzv
  dsimp only
  rw [updD_same]
  show R (.rol l) (delD (updD G p (.lst l)) p)
  rw [delD_updD hp]
  exact h
theorem fzv_newK {R : DK} {l : List (Key × D)} {G : DH} (h : R (.rod l) G) : ∀ p, G p = none → fzv R (.ref p) (updD G p (.dK l)) := fun p hp => by
  unfold fzv
  dsimp only
  rw [updD_same]
  show R (.rod l) (delD (updD G p (.dK l)) p)
  rw [delD_updD hp]
  exact h
theorem fzv_of {R : DK} {v : D} {G : DH} (n : ∀ p, v ≠ .ref p) (h : R v G) : fzv R v G := by
  unfold fzv
  split
  · exact absurd rfl (n _)
  · exact h
section
variable {X : Cx}
theorem od_frz {f : Value → Value → Sem Value} {r2 s2 : D2} (h : OD X f r2) (k : ∀ d e G R, s2 d e G R → r2 d e G (fzv R)) : OD X f s2 := by
  obtain ⟨r, h1, h2⟩ := h
  refine ⟨fun x y H Q => r x y H (fun v H1 => Q v H1 ∨ ∃ d u, H1 d = some u ∧ Mut (some u) ∧ ∀ od, Q v (upd H1 d (.frz od u))), fun pins s σ H x y v u Q I rx ry q => ?_, fun T x y H d e G R Q hr rx ry q cr => h2 T x y H d e G _ _ hr rx ry (k _ _ _ _ q) (clo_fz cr)⟩
  refine thn (h1 pins s σ H x y v u _ I rx ry q) fun b s1 ⟨z, H1, I1, rz, q1⟩ => ?_
  rcases q1 with q1 | ⟨d, o, e1, mu, q1⟩
  · exact ⟨z, H1, I1, rz, q1⟩
  · obtain ⟨od, I2⟩ := I1.lock e1 mu
    exact ⟨z, _, I2, rz, q1 od⟩
theorem cd_frz {f : Value} {r2 s2 : DC} (h : CD X f r2) (k : ∀ ds G R, s2 ds G R → r2 ds G (fzv R)) : CD X f s2 := by
  obtain ⟨r, h1, h2⟩ := h
  refine ⟨fun xs H Q => r xs H (fun v H1 => Q v H1 ∨ ∃ d u, H1 d = some u ∧ Mut (some u) ∧ ∀ od, Q v (upd H1 d (.frz od u))), fun pins s σ H xs us Q I rx q => ?_, fun T x H d G R Q hr rx q cr => h2 T x H d G _ _ hr rx (k _ _ _ q) (clo_fz cr)⟩
  refine thn (h1 pins s σ H xs us _ I rx q) fun b s1 ⟨z, H1, I1, rz, q1⟩ => ?_
  rcases q1 with q1 | ⟨d, o, e1, mu, q1⟩
  · exact ⟨z, H1, I1, rz, q1⟩
  · obtain ⟨od, I2⟩ := I1.lock e1 mu
    exact ⟨z, _, I2, rz, q1 od⟩
theorem cd_imp {f : Value} {r2 s2 : DC} (h : CD X f r2) (k : ∀ ds G R, s2 ds G R → r2 ds G R) : CD X f s2 := by
  obtain ⟨r, h1, h2⟩ := h
  exact ⟨r, h1, fun T x H d G R Q hr rx q cr => h2 T x H d G _ _ hr rx (k _ _ _ q) cr⟩
end
end Cc
/-! ### operators, built-ins: lists as values -/
namespace Cc
open PySem PySem.Spec PyProof.Rows L2
open PySem.W (EachIs AllAlike Sortable dataLe KeyPure kla_obj kla_fn envX)
section
variable {X : Cx} {pins : List (Addr × Obj)} {σ : L2.St} {H : Hp} {s : Shared} {l : Addr} {xs : List V}
theorem rdM (I : Inv X pins σ H s) (hH : Rd H l (.lst xs)) : xs.length ≤ sizeLine ∧ ∃ (its : List Value) (n : Nat), Vals xs its ∧ xs.length = its.length ∧ s.heap.get? l = some { cls := .type "list", data := .seq its.toArray n } := by
  obtain ⟨z, its, n, r, e⟩ := hH.ok I.hok
  exact ⟨z, its, n, r, r.length, e⟩
def rCatR : R2 := fun x y H Q => ∃ l b xs zs, x = .ref l ∧ y = .ref b ∧ Rd H l (.lst xs) ∧ Rd H b (.lst zs) ∧ xs.length + zs.length ≤ sizeLine ∧ ∀ p, H p = none → Q (.ref p) (upd H p (.lst (xs ++ zs)))
theorem op_catR : OpR X (binaryOp .Add) rCatR := by
  intro pins s σ H x y v u Q I rx ry h
  obtain ⟨l, b, xs, zs, rfl, rfl, hH, hB, hz, q⟩ := h
  cases rx
  cases ry
  obtain ⟨z, its, n, r, hl, e⟩ := rdM I hH
  obtain ⟨z2, its2, n2, r2, hl2, e2⟩ := rdM I hB
  refine PySem.P.add_list e e2 ?_ (by rw [List.size_toArray, List.size_toArray]; omega)
  have ea : its.toArray ++ its2.toArray = (its ++ its2).toArray := by simp
  rw [ea]
  exact ⟨.ref _, _, I.lnew (t' := s.toks) (r.append r2) (by rw [List.length_append]; omega), rfl, q _ I.fresh⟩
def rRepR : R2 := fun x y H Q => ∃ l k xs, x = .ref l ∧ y = .int k ∧ Rd H l (.lst xs) ∧ -(2 ^ 63) ≤ k ∧ k < 2 ^ 63 ∧ xs.length * k.toNat ≤ sizeLine ∧
  ∀ p, H p = none → Q (.ref p) (upd H p (.lst (List.replicate k.toNat xs).flatten))
theorem op_repR : OpR X (binaryOp .Mult) rRepR := by
  intro pins s σ H x y v u Q I rx ry h
  obtain ⟨l, k, xs, rfl, rfl, hH, h1, h2, hz, q⟩ := h
  cases rx
  obtain ⟨t, rfl⟩ := ry
  obtain ⟨z, its, n, r, hl, e⟩ := rdM I hH
  have hlen : its.toArray.size * k.toNat ≤ sizeLine := by rw [List.size_toArray, ← hl]; exact hz
  have hcap : ¬ its.toArray.size * k.toNat > (2 ^ 63 - 1) / 8 := by
    have : (sizeLine : Nat) ≤ (2 ^ 63 - 1) / 8 := by decide
    omega
  have hfit : ¬ (!Builtin.List.listFitsIndex k) = true := by
    rw [fitsIndex_both h1 h2]
    exact Bool.false_ne_true
  have hlong : ¬ Builtin.List.listTooLong (its.toArray.size * k.toNat) = true := by
    rw [notLongL hlen]
    exact Bool.false_ne_true
  have hnew : List.foldl (fun x1 x2 => x1 ++ x2) #[] (List.replicate (if its.toArray.isEmpty = true then 0 else k.toNat) its.toArray) = (List.replicate k.toNat its).flatten.toArray := by
    have f0 : ∀ m : Nat, List.foldl (fun x1 x2 => x1 ++ x2) #[] (List.replicate m its.toArray) = (List.replicate m its).flatten.toArray := fun m => by
      have := foldl_rep its m []
      rw [List.nil_append] at this
      exact this
    rw [f0]
    cases its with
    | nil => simp
    | cons a r' => rw [if_neg (by simp)]
  refine wpAny_binaryOp_repeat_ref (T := "list") (U := "int") (by decide) ⟨_, e, rfl⟩ (fun s' => typeIs_int s' k t) noFill_list_mul F.fills_int_mul F.slot_int_rmul repeat_list F.slot_int_index.lookup
    (call_meets F.slot_int_rmul (typeIs_int s k t) F.entry_int_rmul (F.args_int_rmul_2 _ _) (int___rmul___int_list k t l its.toArray n)
      ⟨e, rfl, ⟨_, e, rfl⟩, call_meets F.slot_list_mul ⟨_, e, rfl⟩ F.entry_list_mul (F.args_list_mul_2 _ _) (AutoListH.list___mul___list_int_3 l its.toArray n k t hfit hcap hlong) ⟨e, ?_⟩⟩)
  rw [hnew]
  exact ⟨.ref _, _, I.lnew (t' := s.toks) (r.rep k.toNat) (by rw [PyProof.Rows.lm_len_rep_flat, Nat.mul_comm]; exact hz), rfl, q _ I.fresh⟩
def rExtendR : V → List V → Hp → VK → Prop := fun x vs H Q => ∃ l b xs zs, x = .ref l ∧ vs = [.ref b] ∧ H l = some (.lst xs) ∧ Rd H b (.lst zs) ∧ xs.length + zs.length ≤ sizeLine ∧ Q .non (upd H l (.lst (xs ++ zs)))
theorem mt_extendR : MtM X "list.extend" rExtendR := by
  intro pins s σ H x vs v us Q I rx rv h
  obtain ⟨l, b, xs, zs, rfl, rfl, hH, hB, hz, q⟩ := h
  cases rx
  obtain ⟨u, rfl, ru⟩ := rv.one
  cases ru
  obtain ⟨z, its, n, r, hl, e⟩ := I.lstM hH
  obtain ⟨z2, its2, n2, r2, hl2, e2⟩ := rdM I hB
  have hsz : its.toArray.size + its2.toArray.size ≤ sizeLine := by rw [List.size_toArray, List.size_toArray]; omega
  have hlong : ¬ (!its.toArray.isEmpty && Builtin.List.listTooLong (its.toArray.size + its2.toArray.size)) = true := by
    rw [notLongL hsz, Bool.and_false]
    exact Bool.false_ne_true
  refine call_meets F.slot_list_extend ⟨_, e, rfl⟩ F.entry_list_extend (F.args_list_extend_2 _ _)
    (AutoSeq1.list_extend_list_list_0 l its.toArray n b its2.toArray n2 hlong (by rw [List.size_toArray]; omega) (by omega)) ⟨e, e2, ?_⟩
  refine ⟨.non, _, I.lset (its' := its ++ its2) hH e (by simp) (r.append r2) ?_, rfl, q⟩
  rw [List.length_append]
  omega
def rSortS (K : PySem.W.Frag) : List V → Hp → VK → Prop := fun vs H Q => ∃ (a : Addr) (bs : List (V × PyData)), vs = [V.ref a] ∧ (SqL K H a (bs.map Prod.fst) ∨ SqT K H a (bs.map Prod.fst)) ∧ (∀ b ∈ bs, Dp K H b.1 b.2) ∧ AllAlike (bs.map Prod.snd) ∧ Sortable (bs.map Prod.snd) ∧ (∀ b ∈ bs, b.2.depth ≤ 40) ∧
  bs.length ≤ sizeLine ∧ ∀ p, H p = none → Q (.ref p) (upd H p (.lst (sortV bs)))
theorem cr_sortS (hu : X.A.units + 42 < cLine) : CallR X (.builtin "sorted") (rSortS X.K) := by
  intro pins s σ H vs us Q I r h
  obtain ⟨a, bs, rfl, hs, hd, hal, hk, hdep, hz, q⟩ := h
  have hq : ∃ (T : String) (its : List Value) (o : Obj) (n : Nat), (T = "list" ∨ T = "tuple") ∧ Vals (bs.map Prod.fst) its ∧ s.heap.get? a = some o ∧ o.cls = .type T ∧ o.data = .seq its.toArray n := by
    rcases hs with hs | hs
    · obtain ⟨its, rv, ⟨o, n, e1, e2, _, e3⟩, _⟩ := I.list hs
      exact ⟨"list", its, o, n, .inl rfl, rv, e1, e2, e3⟩
    · obtain ⟨its, rv, ⟨o, e1, e2, n, e3⟩, _⟩ := I.tuple hs
      exact ⟨"tuple", its, o, n, .inr rfl, rv, e1, e2, e3⟩
  obtain ⟨T, its, o, n, hT, rv, e1, e2, e3⟩ := hq
  rw [Vals.ref1 r]
  refine PySem.W.cc_sorted_data (R := fun v (b : V × PyData) => RelV b.1 v) (enc := Prod.snd) hT e1 e2 e3 (each_of_vals rv fun b _ v r => r) (each_of_vals rv fun b hb v r => Dp.reads I b.2 b.1 v (hd b hb) r) hal hk hz (fun b hb => by have := hdep b hb; omega) fun out ho eo => ?_
  obtain ⟨ep, he'⟩ := PyProof.Rows.sortedAll_at s.heap its out.toArray
  have hlen : (sortV bs).length ≤ sizeLine := by unfold sortV; rw [List.length_map, List.length_mergeSort]; exact hz
  refine ⟨.ref _, upd H (s.heap.objs.size + 1) (.lst (sortV bs)), I.laid (t' := s.toks) (fun _ _ => PyProof.Rows.sortedAll_old) (Nat.le_succ _) ⟨hlen, out, ep, vals_of_each eo, he'⟩, rfl, q _ (I.hok.fresh (Nat.le_succ _))⟩
end
theorem lstOf_rd {K : KT} {G : DH} {H : Hp} {v : V} {y : D} {l : List D} (hr : HRel K G H) (r : Dv K H v y) (e : lstOf G y = some l) : ∃ p xs, v = .ref p ∧ Rd H p (.lst xs) ∧ DvL K H xs l := by
  unfold lstOf at e
  split at e
  · cases r
    split at e
    · rename_i a l' ea
      cases e
      obtain ⟨xs, e1, r1⟩ := hr _ _ ea
      exact ⟨_, _, rfl, .inl e1, r1⟩
    · cases e
  · cases e
    cases r with
    | rol hq r =>
      obtain ⟨o, hq⟩ := hq
      exact ⟨_, _, rfl, .inr ⟨o, hq⟩, r⟩
  · cases e
theorem Dv.as_tup {K : KT} {H : Hp} {v : V} {d : D} {l : List D} (h : Dv K H v d) (e : d.tl = some l) : Dv K H v (.tup l) := by
  obtain ⟨a, xs, rfl, h1, h2⟩ := h.sqT e
  exact .tup h1 h2
section
variable {X : Cx}
def dAddF : D2 := fun x y G R => match x, y with
  | .int i, .int j => R (.int (i + j)) G
  | .str s, .str t => s.length + t.length ≤ sizeLine ∧ R (.str (s ++ t)) G
  | x, y => match x.tl, y.tl with
    | some l, some m => l.length + m.length ≤ sizeLine ∧ R (.tup (l ++ m)) G
    | _, _ => match lstOf G x, lstOf G y with
      | some l, some m => l.length + m.length ≤ sizeLine ∧ R (.rol (l ++ m)) G
      | _, _ => False
def dAdd0 : D2 := fun x y G R => match lstOf G x, lstOf G y with
  | some l, some m => l.length + m.length ≤ sizeLine ∧ ∀ n, G n = none → R (.ref n) (updD G n (.lst (l ++ m)))
  | _, _ => False
theorem od_add0 : OD X (binaryOp .Add) dAdd0 := by
  refine ⟨_, op_catR, fun T x y H d e G R Q hr rx ry q cr => ?_⟩
  unfold dAdd0 at q
  split at q
  · rename_i l m e1 e2
    obtain ⟨p, xs, rfl, a1, a2⟩ := lstOf_rd hr rx e1
    obtain ⟨b, ys, rfl, b1, b2⟩ := lstOf_rd hr ry e2
    exact ⟨_, _, xs, ys, rfl, rfl, a1, b1, by rw [a2.length, b2.length]; exact q.1, fun p hp => cr _ _ _ _ (Up.new hp) (hr.new (c := .lst (l ++ m)) hp ⟨_, upd_same, (a2.append b2).up (Up.new hp)⟩) (.ref p) (q.2 p (hr.none hp))⟩
  · exact False.elim q
theorem od_or {f : Value → Value → Sem Value} {r s : D2} (h : OD X f r) (h' : OD X f s) : OD X f (fun x y G R => r x y G R ∨ s x y G R) := by
  obtain ⟨a, b, c⟩ := h
  obtain ⟨a', b', c'⟩ := h'
  exact ⟨_, b.or b', fun T => (c T).or (c' T)⟩
theorem od_imp {f : Value → Value → Sem Value} {r s : D2} (h : OD X f r) (k : ∀ d e G R, s d e G R → r d e G R) : OD X f s := by
  obtain ⟨a, b, c⟩ := h
  exact ⟨_, b, fun T => (c T).imp k⟩
/-- a value may be read as another one -/
theorem od_reread {f : Value → Value → Sem Value} {r s : D2} (h : OD X f r) (k : ∀ d e G R, s d e G R → ∃ R', r d e G R' ∧ ∀ (K : KT) H v z G', Dv K H v z → R' z G' → ∃ z', Dv K H v z' ∧ R z' G') : OD X f s := by
  obtain ⟨a, b, c⟩ := h
  refine ⟨_, b, fun T x y H d e G R Q hr rx ry q cr => ?_⟩
  obtain ⟨R', q', kk⟩ := k _ _ _ _ q
  refine c T x y H d e G R' Q hr rx ry q' fun v H' z G' u hr' dv qz => ?_
  obtain ⟨z', dz, qz'⟩ := kk _ _ _ _ _ dv qz
  exact cr v H' z' G' u hr' dz qz'
theorem od_addF : OD X (binaryOp .Add) dAddF := by
  refine od_reread (od_or (od_frz od_add0 (s2 := fun x y G R => match lstOf G x, lstOf G y with
    | some l, some m => l.length + m.length ≤ sizeLine ∧ R (.rol (l ++ m)) G
    | _, _ => False) fun d e G R q => ?_) od_add) fun d e G R q => ?_
  · unfold dAdd0
    split at q
    · exact ⟨q.1, fzv_new q.2⟩
    · exact q.elim
  · unfold dAddF at q
    split at q
    · exact ⟨R, .inr q, fun K H v z G' a b => ⟨z, a, b⟩⟩
    · exact ⟨R, .inr q, fun K H v z G' a b => ⟨z, a, b⟩⟩
    · split at q
      · rename_i l m e1 e2
        refine ⟨fun z G' => z.tl = some (l ++ m) ∧ R (.tup (l ++ m)) G', .inr ?_, fun K H v z G' a b => ⟨_, a.as_tup b.1, b.2⟩⟩
        unfold dAdd
        split
        · cases e1
        · cases e1
        · cases e1
        · rw [e1, e2]
          refine ⟨q.1, fun h => ⟨by rw [h]; exact e2, q.2⟩, fun _ h => ⟨by rw [h, List.append_nil]; exact e1, q.2⟩, fun _ _ => ⟨rfl, q.2⟩⟩
      · exact ⟨R, .inl q, fun K H v z G' a b => ⟨z, a, b⟩⟩
def dMulF : D2 := fun x y G R => match x, y with
  | .int i, .int j => CMul i j ∧ R (.int (i * j)) G
  | x, .int k => (match lstOf G x with
    | some l => -(2 ^ 63) ≤ k ∧ k < 2 ^ 63 ∧ l.length * k.toNat ≤ sizeLine ∧ R (.rol (List.replicate k.toNat l).flatten) G
    | none => False)
  | _, _ => False
def dMul0 : D2 := fun x y G R => match y with
  | .int k => (match lstOf G x with
    | some l => -(2 ^ 63) ≤ k ∧ k < 2 ^ 63 ∧ l.length * k.toNat ≤ sizeLine ∧ ∀ n, G n = none → R (.ref n) (updD G n (.lst (List.replicate k.toNat l).flatten))
    | none => False)
  | _ => False
theorem od_mul0 : OD X (binaryOp .Mult) dMul0 := by
  refine ⟨_, op_repR, fun T x y H d e G R Q hr rx ry q cr => ?_⟩
  unfold dMul0 at q
  split at q
  · split at q
    · rename_i l e1
      cases ry
      obtain ⟨p, xs, rfl, a1, a2⟩ := lstOf_rd hr rx e1
      obtain ⟨h1, h2, z, q⟩ := q
      exact ⟨_, _, xs, rfl, rfl, a1, h1, h2, by rw [a2.length]; exact z, fun p hp => cr _ _ _ _ (Up.new hp) (hr.new (c := .lst _) hp ⟨_, upd_same, (a2.rep _).up (Up.new hp)⟩) (.ref p) (q p (hr.none hp))⟩
    · exact q.elim
  · exact False.elim q
theorem od_mulF : OD X (binaryOp .Mult) dMulF := by
  refine od_imp (od_or (od_frz od_mul0 (s2 := fun x y G R => match y with
    | .int k => (match lstOf G x with
      | some l => -(2 ^ 63) ≤ k ∧ k < 2 ^ 63 ∧ l.length * k.toNat ≤ sizeLine ∧ R (.rol (List.replicate k.toNat l).flatten) G
      | none => False)
    | _ => False) fun d e G R q => ?_) od_mul) fun d e G R q => ?_
  · unfold dMul0
    split at q
    · split at q
      · exact ⟨q.1, q.2.1, q.2.2.1, fzv_new q.2.2.2⟩
      · exact q.elim
    · exact q.elim
  · unfold dMulF at q
    split at q
    · exact .inr q
    · exact .inl q
    · exact q.elim
/-! list, tuple, sorted, all, len -/
def dListF : DC := fun xs G R => match xs with
  | [x] => (match seqOf G x with
    | some l => R (.rol l) G
    | none => False)
  | _ => False
theorem cd_listF : CD X (.type "list") dListF := cd_frz cd_list fun ds G R q => by
  unfold dListF at q
  unfold dListC
  split at q
  · split at q
    · rename_i l e
      first
        | exact fzv_new q
        | (rw [e]; exact fzv_new q)
        | (dsimp only; rw [e]; exact fzv_new q)
    · exact q.elim
  · exact q.elim
def dSorted0 : DC := fun xs G R => match xs with
  | [x] => ∃ l ts, seqOf G x = some l ∧ RddL G l ts ∧ AllAlike ts ∧ Sortable ts ∧ (∀ t ∈ ts, t.depth ≤ 40) ∧ l.length ≤ sizeLine ∧ ∀ p, G p = none → R (.ref p) (updD G p (.lst (sortD l ts)))
  | _ => False
def dSortedF : DC := fun xs G R => match xs with
  | [x] => ∃ l ts, seqOf G x = some l ∧ RddL G l ts ∧ AllAlike ts ∧ Sortable ts ∧ (∀ t ∈ ts, t.depth ≤ 40) ∧ l.length ≤ sizeLine ∧ R (.rol (sortD l ts)) G
  | _ => False
theorem cd_sorted0 (hu : X.A.units + 64 < cLine) : CD X (.builtin "sorted") dSorted0 := ⟨_, cr_sortS (by omega), fun T x H d G R Q hr r q cr => by
  unfold dSorted0 at q
  split at q
  · cases r with
    | cons r1 r2 =>
      cases r2
      obtain ⟨l, ts, e, rd, hal, hk, hdep, hz, q⟩ := q
      obtain ⟨p, xs, rfl, hq, rl⟩ := seqOf_sq hr r1 e
      have hl : xs.length = ts.length := rl.length.trans rd.len
      have e1 : (xs.zip ts).map Prod.fst = xs := List.map_fst_zip (by omega)
      have e2 : (xs.zip ts).map Prod.snd = ts := List.map_snd_zip (by omega)
      refine ⟨p, xs.zip ts, rfl, by rw [e1]; exact hq, dpAll_at (RddL.dp hr rd rl), by rw [e2]; exact hal, by rw [e2]; exact hk, fun b hb => hdep _ (by rw [← e2]; exact List.mem_map.mpr ⟨b, hb, rfl⟩), by rw [List.length_zip, rl.length]; omega, fun n hn => ?_⟩
      have un := Up.new (o := .lst (sortV (xs.zip ts))) hn
      refine cr _ _ _ _ un (hr.new (c := .lst (sortD l ts)) hn ⟨sortV (xs.zip ts), upd_same, ?_⟩) (.ref n) (q n (hr.none hn))
      have z := each_sort (le := dataLe false Prod.snd) (le' := dataLe false (Prod.snd : D × PyData → PyData)) (fun a b c d h1 h2 => by
        show PySem.W.dataLe false (fun t : PyData => t) a.2 c.2 = PySem.W.dataLe false (fun t : PyData => t) b.2 d.2
        rw [h1.2, h2.2]) (dvL_zip rl hl)
      exact (dvL_of_each z).up un
  · exact False.elim q⟩
theorem cd_sortedF (hu : X.A.units + 64 < cLine) : CD X (.builtin "sorted") dSortedF := cd_frz (cd_sorted0 hu) fun ds G R q => by
  unfold dSortedF at q
  split at q
  · obtain ⟨l, ts, a, b, c, d, e, f, q⟩ := q
    exact ⟨l, ts, a, b, c, d, e, f, fzv_new q⟩
  · exact q.elim
def dAllF : DC := fun xs G R => match xs with
  | [x] => ∃ bs : List Bool, lstOf G x = some (bs.map D.bl) ∧ R (.bl (bs.all id)) G
  | _ => False
theorem cd_allF (hc : X.calm = true) : CD X (.builtin "all") dAllF := ⟨_, cr_all hc, fun T x H d G R Q hr r q cr => by
  unfold dAllF at q
  split at q
  · cases r with
    | cons r1 r2 =>
      cases r2
      obtain ⟨bs, e, q⟩ := q
      obtain ⟨p, xs, rfl, h1, h2⟩ := lstOf_sq hr r1 e
      rw [dvl_bls h2] at h1
      exact ⟨_, bs, rfl, h1, cr _ _ _ _ (Up.refl H) hr (.bl _) q⟩
  · exact False.elim q⟩
/-! methods -/
def mExtendF : DM := fun x xs G R => match x, xs with
  | .ref a, [y] => ∃ l m, G a = some (.lst l) ∧ lstOf G y = some m ∧ l.length + m.length ≤ sizeLine ∧ R .non (updD G a (.lst (l ++ m)))
  | _, _ => False
theorem md_extendF : MD X "list.extend" mExtendF := ⟨_, mt_extendR, fun T x xs H d ds G R Q hr r rs q cr => by
  unfold mExtendF at q
  split at q
  · cases r
    cases rs with
    | cons r1 r2 =>
      cases r2
      obtain ⟨l, m, e1, e2, z, q⟩ := q
      obtain ⟨xs, a1, a2⟩ := hr _ _ e1
      obtain ⟨b, ys, rfl, b1, b2⟩ := lstOf_rd hr r1 e2
      have u : ∀ o, Up H (upd H _ o) := fun o => Up.put a1 trivial
      exact ⟨_, _, xs, ys, rfl, rfl, a1, b1, by rw [a2.length, b2.length]; exact z, cr _ _ _ _ (u _) (hr.put (c := .lst _) a1 trivial ⟨_, upd_same, (a2.append b2).up (u _)⟩) .non q⟩
  · exact False.elim q⟩
/-! slices -/
def sSlF : D → Option Int → Option Int → DH → DK → Prop := fun x lo hi G R => match x.tl with
  | some l => R (.tup (cutD l lo hi)) G
  | none => match lstOf G x with
    | some l => R (.rol (cutD l lo hi)) G
    | none => False
theorem cut_whole {l : List D} {lo hi : Option Int} (h : HT.sIx l.length 0 lo = 0 ∧ HT.sIx l.length l.length hi = l.length) : cutD l lo hi = l := by
  unfold cutD
  rw [h.1, h.2, List.drop_zero, Nat.sub_zero, List.take_length]
theorem sldF : SlD X sSlF := by
  have h1 : SlR X (rSlL X.K) := sl_list
  have h2 : SlR X (rSlA X.K) := sl_tupA
  refine ⟨fun x lo hi H Q => (rSlL X.K x lo hi H (fun v H1 => Q v H1 ∨ ∃ d u, H1 d = some u ∧ Mut (some u) ∧ ∀ od, Q v (upd H1 d (.frz od u)))) ∨ rSlA X.K x lo hi H Q, ?_, fun T x lo hi H d G R Q hr r q cr => ?_⟩
  · intro pins s σ H x v vl vu lo hi sl Q I rx hs pl pu h
    rcases h with h | h
    · obtain ⟨T, id, a, b, c⟩ := h1 pins s σ H x v vl vu lo hi sl _ I rx hs pl pu h
      refine ⟨T, id, a, b, thn c fun v s1 ⟨z, H1, I1, rz, q1⟩ => ?_⟩
      rcases q1 with q1 | ⟨d, o, e1, mu, q1⟩
      · exact ⟨z, H1, I1, rz, q1⟩
      · obtain ⟨od, I2⟩ := I1.lock e1 mu
        exact ⟨z, _, I2, rz, q1 od⟩
    · exact h2 pins s σ H x v vl vu lo hi sl Q I rx hs pl pu h
  · unfold sSlF at q
    split at q
    · rename_i l el
      obtain ⟨a, xs, h1, h2, h3⟩ := r.sqT el
      refine .inr ⟨a, xs, h1, h2, fun hw => ?_, fun hw p hp => ?_⟩
      · rw [h3.length] at hw
        subst h1
        rw [cut_whole hw] at q
        exact cr _ _ _ _ (Up.refl H) hr (r.as_tup el) q
      · exact cr _ _ _ _ (Up.new hp) (hr.new0 hp) (.tup (SqT.of upd_same) ((h3.cut lo hi).up (Up.new hp))) q
    · split at q
      · rename_i l el
        obtain ⟨a, xs, rfl, h2, h3⟩ := lstOf_rd hr r el
        have h2' : SqL X.K H a xs := by
          rcases h2 with h | ⟨o, h⟩
          · exact .inl (.inl h)
          · exact .inl (.inr ⟨o, h⟩)
        refine .inl ⟨a, xs, rfl, h2', fun p hp => clo_fz cr _ _ _ _ (Up.new hp) (hr.new (c := .lst _) hp ⟨_, upd_same, (h3.cut lo hi).up (Up.new hp)⟩) (.ref p) (fzv_new q p (hr.none hp))⟩
      · exact q.elim
end
/-! displays -/
def dLstF (dl : DA) : DE := fun δ G R EX => dl δ G (fun xs G1 => xs.length ≤ sizeLine ∧ R (.rol xs) G1) EX
section
variable {X : Cx} {E : EK} {es : List Expr} {pos : Pos} {dl : DA}
theorem pd_lstF (h : PDA X E es dl) : PD X E (.List es pos) (dLstF dl) :=
  ⟨imE (pe_frz (pe_lst h.pa)) fun σ H Q ⟨δ, G, R, EX, sr, hr, h, cr, cx⟩ => ⟨δ, G, _, EX, sr, hr, h, fun xs H1 l G1 u1 h1 r1 ⟨z, q1⟩ => ⟨by rw [r1.length]; exact z, fun p hp =>
    clo_fz cr _ _ _ _ (u1.trans (Up.new hp)) (h1.new (c := .lst l) hp ⟨xs, upd_same, r1.up (Up.new hp)⟩) (.ref p) (fzv_new q1 p (h1.none hp))⟩, cx⟩⟩
end
end Cc
/-! ### sorted(a list or tuple, key = a lambda), read as a value -/
namespace Cc
open PySem PySem.Spec PyProof.Rows L2
open PySem.W (EachIs AllAlike Sortable dataLe KeyPure kla_obj kla_fn envX)
def dSortGF {κ : Type} (enc : κ → PyData) (kf : D → Option κ) (da : DE) : DE := fun δ G R EX => da δ G (fun x G1 => ∃ (l : List D) (ks : List κ), seqOf G1 x = some l ∧ l.map kf = ks.map some ∧ l.length ≤ sizeLine ∧ R (.rol (sortG enc l ks)) G1) EX
section
variable {X : Cx} {E : EK} {e : Expr} {de : DE} {p pos lp kp : Pos} {params : Arguments} {body : Expr} {scope : Scope} {x : Str} {κ : Type} {enc : κ → PyData} {kf : D → Option κ} {c P : Addr} {j : Nat}
theorem pd_sortGF (KB : KeyBody x body enc kf) (hal : ∀ a b, PySem.W.alike (enc a) (enc b) = true) (hsk : (∀ b, ∃ y r, enc b = .tuple (y :: r)) ∨ ∀ b, enc b ≠ .none ∧ ∀ xs, enc b ≠ .tuple xs) (hdep : ∀ b, (enc b).depth ≤ 1) (hkf : ∀ d k, kf d = some k → ∃ l, d.tl = some l)
    (TB : LamX.TabB X.base X.mg c P) (hcode : X.env.code = .ref c) (hm : (P, X.env.qual ++ "<lambda>") ∈ E.2) (hu : ∀ q ∈ E.2, q.1 = P → q.2 = X.env.qual ++ "<lambda>")
    (L : Lam1 scope x) (hdef : defaultsOf params X.env = ([], [])) (hbind : ∀ pm c' ctv v, bindArgs (kla_fn "<lambda>" (X.env.qual ++ "<lambda>") params body scope [] pm (.ref c') ctv) ⟨[v], []⟩ = pure [(x, v)])
    (hr : Room (j + 2) X.A) (hf : X.mg "sorted" = none) (ha : PD X E e de) (hg : Gl X "sorted" := by rfl)
    (hs : starEach (e :: []) X.env = (false, eval e X.env) :: starEach [] X.env := by rfl)
    (he : backTo pos (starEach (e :: []) X.env) = (false, eval e X.env) :: backTo pos (starEach [] X.env) := by rfl) (hpl : (backTo pos (starEach (e :: []) X.env)).any (·.1) = false := by rfl)
    (hall : (backToKw pos (keywordEach [⟨some "key", .Lambda params body scope lp, kp⟩] X.env)).all (·.1.isSome) = true := by rfl) (hnone : (backToKw pos (keywordEach [⟨some "key", .Lambda params body scope lp, kp⟩] X.env)).any (·.1.isNone) = false := by rfl)
    (hks : (backToKw pos (keywordEach [⟨some "key", .Lambda params body scope lp, kp⟩] X.env)).filterMap (·.1) = (["key"] : List Str) := by rfl) :
    PD X E (.Call (.Name "sorted" p) [e] [⟨some "key", .Lambda params body scope lp, kp⟩] pos) (dSortGF enc kf de) := by
  refine ⟨⟨fun pins s σ H Q I h => ?_⟩⟩
  obtain ⟨δ, G, R, EX, sr, hG, h, cr, cx⟩ := h
  refine wpAny_Call_Name_kw (ld_blt I hg hf (show bootBuiltins "sorted" = some (.builtin "sorted") by decide +kernel) ?_)
  refine PyProof.Rows.callWith_kw (thn ((pa_cons ha.pe pa_nil hs).run pos pins s σ H (fun vs H1 => ∃ (x : V) (d : D) (l : List D) (ks : List κ) (G1 : DH), vs = [x] ∧ Up H H1 ∧ HRel (kt X E) G1 H1 ∧ Dv (kt X E) H1 x d ∧ seqOf G1 d = some l ∧ l.map kf = ks.map some ∧ l.length ≤ sizeLine ∧ R (.rol (sortG enc l ks)) G1) I
    ⟨δ, G, _, EX, sr, hG, h, fun v H1 d G1 u1 h1 r1 q1 => ?_, cx⟩) fun us s1 ⟨vs, H1, I1, r1, q1⟩ => ?_) he hpl hall hnone
  · obtain ⟨l, ks, e1, e2, e3, q⟩ := q1
    exact ⟨_, d, l, ks, G1, rfl, u1, h1, r1, e1, e2, e3, q⟩
  · obtain ⟨x0, d0, l, ks, G1, rfl, u1, h1, dv1, e1, e2, e3, q⟩ := q1
    rw [hks]
    cases r1 with
    | cons ra rn =>
      cases rn
      obtain ⟨p0, xs0, ep0, _, _⟩ := seqOf_sq h1 dv1 e1
      subst ep0
      cases ra
      show wpAny _ _ (evalAll ((do let v ← eval (.Lambda params body scope lp) X.env; standAt pos; pure v) :: [])) _ _ s1
      refine wpAny_evalAll_cons (wpAny_bind (LamX.lam_make2 (T := E.2) I1 TB hcode hm hu h1.t hdef (fun y hy z => absurd z (L.free y hy)) fun f c' pm ctv H2 s2 I2 ex tb hf2 hfn hfr hc2 => wpAny_bind (wpAny_standAt (wpAny_pure (wpAny_evalAll_nil ?_)))))
      have hcl : cloFrom X.env.cells scope.names [] = [] := by
        have z : ∀ names : List (Str × NameKind), (∀ y ∈ names, y.2 ≠ .free) → cloFrom X.env.cells names [] = [] := fun names => by
          induction names with
          | nil => intro _; rfl
          | cons y r ih =>
            intro hy
            obtain ⟨n, kd⟩ := y
            have h0 := hy (n, kd) List.mem_cons_self
            have ih := ih fun y hm => hy y (List.mem_cons_of_mem _ hm)
            unfold cloFrom
            cases kd <;> first | exact ih | exact absurd rfl h0
        exact z _ L.free
      rw [hcl] at hf2
      have h2 : HRel (kt X E) G1 H2 := extN_h h1 ex tb
      obtain ⟨aa, xs, ep1, hq2, rl⟩ := seqOf_sq h2 (dv1.up (extN_up ex)) e1
      obtain rfl : p0 = aa := V.ref.inj ep1
      have hsq : ∃ (T : String) (its : List Value) (o : Obj) (n : Nat), (T = "list" ∨ T = "tuple") ∧ Vals xs its ∧ s2.heap.get? p0 = some o ∧ o.cls = .type T ∧ o.data = .seq its.toArray n := by
        rcases hq2 with hs | hs
        · obtain ⟨its, rv, ⟨o, n, e1, e2, _, e3⟩, _⟩ := I2.list hs
          exact ⟨"list", its, o, n, .inl rfl, rv, e1, e2, e3⟩
        · obtain ⟨its, rv, ⟨o, e1, e2, n, e3⟩, _⟩ := I2.tuple hs
          exact ⟨"tuple", its, o, n, .inr rfl, rv, e1, e2, e3⟩
      obtain ⟨T0, its, o0, n0, hT0, rv, g1, g2, g3⟩ := hsq
      have hlk : l.length = ks.length := by
        have z := congrArg List.length e2
        rwa [List.length_map, List.length_map] at z
      have hbs : (l.zip ks).length = l.length := by rw [List.length_zip, ← hlk, Nat.min_self]
      have hcr : s2.heap.CodeRec (.ref c') (X.env.qual ++ "<lambda>") := by
        obtain ⟨⟨oc, vs, t, hoc, hdc, hvc⟩, _, _⟩ := I2.hok c' _ hc2
        exact ⟨c', oc, vs, t, rfl, hoc, hdc, hvc⟩
      have hun := hr.units
      refine PySem.W.cc_sorted_key (b := false) (R := fun (v : Value) (b : D × κ) => ∃ y, RelV y v ∧ Dv (kt X E) H2 y b.1) (fun b : D × κ => enc b.2) hT0 g1 g2 g3 (each_of rv rl hlk) ?hal ?hsk (by rw [hbs]; exact e3) (fun b _ => ?_) (PyProof.Rows.ksk_s1 _ _) (fun _ => PyProof.Rows.ksk_l1 _ _) (fun _ => PyProof.Rows.ksk_t1 _ _) (fun v b ⟨y, ry, dy⟩ hb h' tk kp => ?_) fun out cc h' tk kp fr hD hlen eo => ?_
      case hal =>
        exact AllAlike.of fun b b' => hal _ _
      case hsk =>
        rcases hsk with z | z
        · exact Sortable.tuples fun b => z _
        · exact Sortable.others fun b => z _
      · have := hdep b.2
        omega
      · have kk := zip_kf e2 b hb
        obtain ⟨l', el⟩ := hkf _ _ kk
        obtain ⟨t, xs', ey, hq, r'⟩ := dy.sqT el
        subst ey
        obtain rfl : v = .ref t := ry
        obtain ⟨its', rv', pt, hz'⟩ := I2.tuple hq
        have pt' : IsTup h' t its'.toArray := by
          obtain ⟨o, ho, rest⟩ := pt
          exact ⟨o, kp _ _ ho, rest⟩
        refine lam_key (s := { s2 with heap := h', toks := tk }) L (kp _ _ hf2) (hcr.keeps kp) hr.in1.in1.depth (I2.nolimit.keeps kp) (hbind pm c' ctv _) fun h₁ tk1 k1 hn => ?_
        have pt2 : IsTup h₁ t its'.toArray := by
          obtain ⟨o, ho, rest⟩ := pt'
          exact ⟨o, k1 _ _ ho, rest⟩
        exact KB (s := { s2 with heap := h₁, toks := tk1 }) L pt2 (by simpa using rv') el r' kk (by rw [List.size_toArray, ← rv'.length]; exact hz') hn
      · obtain ⟨ys, v1, v2⟩ := each_dv eo
        have fp : H2 (s2.heap.objs.size + 1) = none := I2.hok.fresh (Nat.le_succ _)
        have I3 : Inv X pins σ (upd H2 (s2.heap.objs.size + 1) (.lst ys)) { s2 with heap := h', toks := tk } := I2.laid kp (Nat.le_succ _) ⟨by rw [v2.length, List.length_map, List.length_mergeSort, hbs]; exact e3, _, _, v1, hD⟩
        have un := Up.new (o := .lst ys) fp
        have z := clo_fz cr _ _ _ _ (u1.trans ((extN_up ex).trans un)) (h2.new (c := .lst _) fp ⟨ys, upd_same, v2.up un⟩) (.ref _) (fzv_new q _ (h2.none fp))
        rcases z with z | ⟨d3, u3, e3, mu, z⟩
        · exact ⟨.ref (s2.heap.objs.size + 1), _, I3, rfl, z⟩
        · obtain ⟨od, I4⟩ := I3.lock e3 mu
          exact ⟨.ref (s2.heap.objs.size + 1), _, I4, rfl, z od⟩
end
end Cc
namespace Cc
open PySem PySem.Spec PyProof.Rows L2
theorem dEq_int {i j : Int} {G : DH} {R : DK} : dEq (.int i) (.int j) G R = R (.bl (decide (i = j))) G := rfl
theorem dNe_int {i j : Int} {G : DH} {R : DK} : dNe (.int i) (.int j) G R = R (.bl (!decide (i = j))) G := rfl
theorem blD_bl {R : Bool → DH → Prop} {c : Bool} {G : DH} : blD R (.bl c) G = R c G := rfl
local macro_rules | `(tactic| walk_at "rd") => `(tactic| try simp only [sSeq, sIf, sAsg, sRet, sRetN, sDrop, sNext, gN, dTest, dAnd, dOr, dNot, dAndV, dOrV, dNotV, dIf, dOp, dUn, dVar, dC, dCons, dNil, dCB, dTup, dLst, blD_bl, dEq_int, dNe_int, dLt, dLe, dGt, dGe, dMod, dFdiv, dIsN, dNotN, D.isN, dAbs, List.getElem?_cons_zero, List.getElem?_cons_succ, List.set_cons_zero, List.set_cons_succ, decide_eq_true_eq, if_true, if_false, Bool.false_eq_true, ite_true, ite_false])
theorem ix_at {G : DH} {a : Addr} {l : List D} {i : Int} {d : D} {R : DK} (h : G a = some (.lst l)) (e : L2.atI l i = some d) (q : R d G) : dIx (.ref a) (.int i) G R := by
  have e1 : itemOf G (.ref a) (.int i) = some d := by
    unfold itemOf
    dsimp only
    rw [h]
    exact e
  unfold dIx
  rw [e1]
  exact q
theorem atI_0 {α : Type} {x : α} {xs : List α} : L2.atI (x :: xs) 0 = some x := by
  unfold L2.atI L2.ixN
  simp
theorem atI_1 {α : Type} {x y : α} {xs : List α} : L2.atI (x :: y :: xs) 1 = some y := by
  unfold L2.atI L2.ixN
  rw [if_pos (by omega), if_pos (by rw [List.length_cons, List.length_cons]; omega)]
  rfl
theorem seq_cut {t u : DSt} {Dn : DEnds} {δ : DS} {G : DH} (Post : DS → DH → Prop) (h1 : ∀ N : DS → DH → Prop, (∀ δ' G', Post δ' G' → N δ' G') → t { Dn with nx := N } δ G) (h2 : ∀ δ' G', Post δ' G' → u Dn δ' G') : sSeq t u Dn δ G := h1 _ h2
theorem ixN_0 {n : Nat} : L2.ixN (n + 1) 0 = some 0 := by
  unfold L2.ixN
  rw [if_pos (by omega), if_pos (by omega)]
  rfl
theorem ixN_1 {n : Nat} : L2.ixN (n + 1 + 1) 1 = some 1 := by
  unfold L2.ixN
  rw [if_pos (by omega), if_pos (by omega)]
  rfl
theorem pure_off (ds : List D) (G : DH) (R : DK) (EX : DX) (h : sd__law_off ds G R EX) : b__law_off (endsD R EX) (startD N__law_off ds) G := by
  obtain ⟨a, m, l, rfl, hG, ⟨x, y, zs, rfl⟩, m0, m1, q⟩ := h
  show b__law_off (endsD R EX) [some (.ref a), some (.int m), none] G
  unfold b__law_off
  refine seq_cut (fun δ' G' => δ' = [some (.ref a), some (.int m), none] ∧ ∃ (y1 : Int) (zs1 : List Int), G' a = some (.lst (.int x :: .int y1 :: zs1.map D.int)) ∧ (∀ c, updD G' a c = updD G a c) ∧ refill (.int x :: .int y :: zs.map D.int) = .int x :: .int y1 :: zs1.map D.int) (fun N hN => ?_) ?_
  · walk_at "rd"
    refine ix_at hG atI_1 ?_
    walk_at "rd"
    have same : refill (.int x :: .int y :: zs.map D.int) = .int x :: .int y :: zs.map D.int → N [some (.ref a), some (.int m), none] G := fun e => hN _ _ ⟨rfl, y, zs, hG, fun c => rfl, e⟩
    by_cases hy : y = 0
    · subst hy
      rw [if_pos rfl]
      simp only [dLen, lenOf, hG]
      walk_at "rd"
      cases zs with
      | nil =>
        rw [if_neg (by simp)]
        exact same rfl
      | cons z zs =>
        rw [if_pos (by simp; omega)]
        simp only [dBM, tyR]
        walk_at "rd"
        simp only [hG]
        refine ⟨trivial, _, 2, .int z, hG, by omega, by omega, by simp [seqIndex?]; omega, rfl, ?_⟩
        simp only [gS, dSetL, setF]
        walk_at "rd"
        simp only [updD_same]
        refine ⟨1, ixN_1, ?_⟩
        rw [updD_updD]
        exact hN _ _ ⟨rfl, z, zs, updD_same, fun c => updD_updD, by rw [List.map_cons, refill, if_pos rfl]⟩
    · rw [if_neg hy]
      refine same ?_
      cases zs with
      | nil => rfl
      | cons z zs => rw [List.map_cons, refill, if_neg hy]
  · rintro δ' G' ⟨rfl, y1, zs1, hA, hU, hr⟩
    have ef : offF (.int x :: .int y :: zs.map D.int) m = if 0 < y1 then (y1 % m, .int x :: .int (y1 / m) :: zs1.map D.int) else ((x * 48271 + 11) % 2147483647 / 64 % m, .int ((x * 48271 + 11) % 2147483647) :: .int y1 :: zs1.map D.int) := by
      unfold offF
      rw [hr]
    rw [ef] at q
    clear ef hr
    revert hA q
    generalize y1 = y
    generalize zs1 = zs
    intro q hA
    walk_at "rd"
    refine ix_at hA atI_1 ?_
    walk_at "rd"
    by_cases hy : 0 < y
    · rw [if_pos hy]
      refine ix_at hA atI_1 ⟨m0, ?_⟩
      refine ix_at hA atI_1 ?_
      walk_at "rd"
      refine ⟨⟨m0, m1⟩, ?_⟩
      simp only [gS, dSetL, setF]
      walk_at "rd"
      simp only [hA]
      refine ⟨1, ixN_1, ?_⟩
      rw [hU]
      rw [if_pos hy] at q
      exact q _ _ (Int.emod_nonneg _ (by omega)) (Int.emod_lt_of_pos _ m0) ⟨_, _, zs, rfl⟩ rfl
    · rw [if_neg hy]
      refine ix_at hA atI_0 ?_
      simp only [dMul, dAdd]
      refine ⟨Or.inr (by omega), by omega, ?_⟩
      simp only [gS, dSetL, setF]
      walk_at "rd"
      simp only [hA]
      refine ⟨0, ixN_0, ?_⟩
      refine ix_at updD_same atI_0 ?_
      walk_at "rd"
      refine ⟨by unfold CDiv; omega, m0, ?_⟩
      rw [hU]
      rw [if_neg hy] at q
      exact q _ _ (Int.emod_nonneg _ (by omega)) (Int.emod_lt_of_pos _ m0) ⟨_, _, zs, rfl⟩ rfl
theorem Sub.updD {G G' : DH} (s : Sub G G') {a : Addr} {c : C} : Sub (updD G a c) (updD G' a c) := fun b u e => by
  by_cases hb : b = a
  · subst hb
    rw [updD_same] at e ⊢
    exact e
  · rw [updD_ne hb] at e ⊢
    exact s b u e
theorem Sub.up {G G' : DH} (s : Sub G G') {a : Addr} {c : C} (h : G a = none) (h' : G' a = some c) : Sub (Cc.updD G a c) G' := fun b u e => by
  by_cases hb : b = a
  · subst hb
    rw [updD_same] at e
    rw [h']
    exact e
  · rw [updD_ne hb] at e
    exact s b u e
theorem none_up {G : DH} {a b : Addr} {c : C} (h : updD G a c b = none) : G b = none ∧ b ≠ a := by
  by_cases hb : b = a
  · subst hb
    rw [updD_same] at h
    cases h
  · rw [updD_ne hb] at h
    exact ⟨h, hb⟩
theorem seqI_new {G : DH} {x : D} {ns : List Int} {p : Addr} {c : C} (h : seqI G x ns) (n : G p = none) : seqI (updD G p c) x ns := by
  rcases h with h | ⟨a, h, e⟩
  · exact .inl h
  · exact .inr ⟨a, h, Sub.new n _ _ e⟩
theorem iSq_I {i : Nat} {δ : DS} {G : DH} {RR : List D → (DH → Prop) → DH → Prop} {EX : DX} {x : D} {ns : List Int} (hx : δ[i]? = some (some x)) (h : seqI G x ns) (q : ∀ ok : DH → Prop, (∀ G', seqI G' x ns → ok G') → RR (ns.map D.int) ok G) : iSq (dVar i) δ G RR EX := by
  unfold iSq dVar
  rw [hx]
  rcases h with (rfl | rfl) | ⟨a, rfl, e⟩
  · exact q _ fun G' _ => trivial
  · exact q _ fun G' _ => trivial
  · refine ⟨_, e, q _ fun G' h' => ?_⟩
    rcases h' with (h' | h') | ⟨b, h', e'⟩
    · cases h'
    · cases h'
    · cases h'
      exact e'
theorem pure_dice (ds : List D) (G : DH) (R : DK) (EX : DX) (h : sd__law_dice ds G R EX) : b__law_dice (endsD (frg R) EX) (startD N__law_dice ds) G := by
  obtain ⟨x, k, ns, rfl, hx, hn, q⟩ := h
  show b__law_dice (endsD (frg R) EX) [some x, some (.int k), none, none] G
  unfold b__law_dice
  refine seq_cut (fun δ' G' => δ' = [some x, some (.int k), some (.int k), none] ∧ G = G') (fun N hN => ?_) ?_
  · walk_at "rd"
    exact hN _ _ ⟨rfl, rfl⟩
  rintro _ _ ⟨rfl, rfl⟩
  refine seq_cut (fun δ' G' => (∃ f o, δ' = [some x, some (.int k), some (.int f), o] ∧ f = ns.foldl stepI k) ∧ G = G') (fun N hN => ?_) ?_
  · unfold sFor
    refine iSq_I rfl hx fun ok hok => goFor_by (fun xs δ' G' => (∃ f o, δ' = [some x, some (.int k), some (.int f), o] ∧ ∃ ms : List Int, xs = ms.map D.int ∧ ms.foldl stepI f = ns.foldl stepI k) ∧ G = G') (fun xs δ G' h => hok _ (h.2 ▸ hx)) (fun δ G' ⟨⟨f, o, e, ms, e2, e3⟩, h⟩ => hN _ _ ⟨⟨f, o, e, by cases ms with
      | nil => exact e3
      | cons _ _ => cases e2⟩, h⟩) (fun y ys δ G' M h hM => ?_) _ _ _ ⟨⟨k, none, rfl, ns, rfl, rfl⟩, rfl⟩
    obtain ⟨⟨f, o, rfl, ms, e, e3⟩, rfl⟩ := h
    cases ms with
    | nil => cases e
    | cons m ms =>
      cases e
      walk_at "rd"
      simp only [dMul, dAdd]
      walk_at "rd"
      exact ⟨Or.inr (by omega), by omega, hM _ _ ⟨⟨_, _, rfl, ms, rfl, e3⟩, rfl⟩⟩
  rintro _ _ ⟨⟨f, o, rfl, ef⟩, rfl⟩
  walk_at "rd"
  refine ⟨by simp [sizeLine_eq], fun p hp => ?_⟩
  unfold dLc
  refine iSq_I rfl (seqI_new hx hp) fun ok hok => fun p2 hp2 => ?_
  obtain ⟨n2, ne2⟩ := none_up hp2
  refine goLc_map (fun y => match y with
    | .int c => if (10 : Int) ^ 18 ≤ c then some (.int c) else none
    | _ => none) _ (by rw [List.length_map, sizeLine_eq]; omega) (fun acc => hok _ (seqI_new (seqI_new hx hp) hp2)) ?_ fun y hy acc N hacc hN => ?_
  · have e : ∀ ns : List Int, ((ns.map D.int).filterMap fun y => match y with
      | .int c => if (10 : Int) ^ 18 ≤ c then some (D.int c) else none
      | _ => none) = (ns.filter fun c => decide ((10 : Int) ^ 18 ≤ c)).map D.int := fun ns => by
      induction ns with
      | nil => rfl
      | cons n ns ih =>
        rw [List.map_cons, List.filterMap_cons, List.filter_cons, ih]
        by_cases h : (10 : Int) ^ 18 ≤ n
        · simp only [h, if_true, decide_true, List.map_cons]
        · simp only [h, if_false, decide_false, Bool.false_eq_true]
    rw [e]
    unfold dAdd
    refine ⟨[.int f, .int 0], (ns.filter fun c => decide ((10 : Int) ^ 18 ≤ c)).map D.int, by rw [updD_ne (Ne.symm ne2)]; exact updD_same, updD_same, ?_, fun n hn => ?_⟩
    · have := List.length_filter_le (fun c => decide ((10 : Int) ^ 18 ≤ c)) ns
      rw [List.length_map, sizeLine_eq]
      simp only [List.length_cons, List.length_nil]
      omega
    · obtain ⟨h1, _⟩ := none_up hn
      obtain ⟨h2, _⟩ := none_up h1
      exact ⟨_, ((Sub.new hp).trans (Sub.new hp2)).updD, q n _ h2 ⟨f, 0, _, rfl⟩ (by rw [ef]; rfl)⟩
  · obtain ⟨m, hm, rfl⟩ := List.mem_map.mp hy
    simp only [wipeD]
    walk_at "rd"
    simp only [dPow, dGe]
    refine ⟨by unfold CPow; decide, ?_⟩
    have e18 : (18 : Int).toNat = 18 := rfl
    rw [e18] at *
    by_cases h : (10 : Int) ^ 18 ≤ m
    · rw [if_pos h]
      simp only [h, if_true] at hN
      exact ⟨acc, updD_same, hacc, by rw [updD_updD]; exact hN⟩
    · rw [if_neg h]
      simp only [h, if_false] at hN
      exact hN
end Cc
namespace Cc
open PySem PySem.Spec PyProof.Rows L2
local macro_rules | `(tactic| walk_at "rd") => `(tactic| try simp only [sSeq, sIf, sAsg, sRet, sRetN, sDrop, sNext, gN, dTest, dAnd, dOr, dNot, dAndV, dOrV, dNotV, dIf, dOp, dUn, dVar, dC, dCons, dNil, dCB, dTup, dLst, blD_bl, dEq_int, dNe_int, dLt, dLe, dGt, dGe, dMod, dFdiv, dIsN, dNotN, D.isN, dAbs, List.getElem?_cons_zero, List.getElem?_cons_succ, List.set_cons_zero, List.set_cons_succ, decide_eq_true_eq, if_true, if_false, Bool.false_eq_true, ite_true, ite_false])
theorem isi_ty {G : DH} {x : D} {t T : String} {b : Bool} {R : DK} (h : tyD G x = some t) (e : kitB t T = some b) (q : R (.bl b) G) : dIsi [x, .ty T] G R := by
  have z : (match tyD G x with
    | some t => (match kitB t T with
      | some b => R (.bl b) G
      | none => False)
    | none => False) := by
    rw [h]
    dsimp only
    rw [e]
    exact q
  exact z
theorem tyD_tl {G : DH} {x : D} {l : List D} (e : x.tl = some l) : tyD G x = some "tuple" := by
  cases x <;> first | rfl | cases e
theorem seq_tl {G : DH} {x : D} {l : List D} (e : x.tl = some l) : seqOf G x = some l := by
  cases x <;> first | exact e | cases e
theorem isN_tl {x : D} {l : List D} (e : x.tl = some l) : x.isN = false := by
  cases x <;> first | rfl | cases e
theorem len_seq {G : DH} {x : D} {l : List D} (e : seqOf G x = some l) : lenOf G x = some l.length := by
  unfold seqOf at e
  split at e
  · rename_i a
    unfold lenOf
    dsimp only
    split at e
    · rename_i l' ea
      cases e
      rw [ea]
    · cases e
  · cases e
    rfl
  · rename_i h1 h2
    have e2 : seqOf G x = some l := seq_tl e
    unfold lenOf
    split
    · cases e
    · exact absurd rfl (h1 _)
    · rw [e2]
      rfl
theorem item_seq {G : DH} {x : D} {l : List D} {i : Int} (e : seqOf G x = some l) : itemOf G x (.int i) = L2.atI l i := by
  unfold seqOf at e
  split at e
  · rename_i a
    unfold itemOf
    dsimp only
    split at e
    · rename_i l' ea
      cases e
      rw [ea]
    · cases e
  · cases e
    rfl
  · rename_i h1 h2
    cases x <;> first | (cases e; rfl) | cases e
theorem ix_seqd {G : DH} {x : D} {l : List D} {i : Int} {d : D} {R : DK} (e : seqOf G x = some l) (h : L2.atI l i = some d) (q : R d G) : dIx x (.int i) G R := by
  have e1 : itemOf G x (.int i) = some d := (item_seq e).trans h
  unfold dIx
  rw [e1]
  exact q
theorem atI_nat {α : Type} {l : List α} {i : Nat} {x : α} (h : l[i]? = some x) : L2.atI l (i : Int) = some x := by
  have hl := (List.getElem?_eq_some_iff.mp h).1
  unfold L2.atI L2.ixN
  rw [if_pos (by omega), if_pos (by omega)]
  exact h
mutual
theorem Rdd.sub {G G' : DH} (s : Sub G G') : ∀ {d : D} {t : PyData}, Rdd G d t → Rdd G' d t
  | _, _, .non => .non
  | _, _, .bl b => .bl b
  | _, _, .int i => .int i
  | _, _, .str x => .str x
  | _, _, .tup e r => .tup e (RddL.sub s r)
  | _, _, .rol r => .rol (RddL.sub s r)
  | _, _, .lst e r => .lst (s _ _ e) (RddL.sub s r)
theorem RddL.sub {G G' : DH} (s : Sub G G') : ∀ {d : List D} {t : List PyData}, RddL G d t → RddL G' d t
  | _, _, .nil => .nil
  | _, _, .cons h r => .cons (Rdd.sub s h) (RddL.sub s r)
end
theorem RddL.get {G : DH} : ∀ {l : List D} {ts : List PyData} {i : Nat}, RddL G l ts → i < ts.length → ∃ d t, l[i]? = some d ∧ ts[i]? = some t ∧ Rdd G d t
  | _, _, _, .nil, h => by simp at h
  | _, _, 0, .cons h _, _ => ⟨_, _, rfl, rfl, h⟩
  | _, _, i + 1, .cons _ r, h => by
    obtain ⟨d, t, a, b, c⟩ := RddL.get (i := i) r (by simpa using h)
    exact ⟨d, t, by simpa using a, by simpa using b, c⟩
theorem depth_at : ∀ {ts : List PyData} {i : Nat} {t : PyData}, ts[i]? = some t → t.depth ≤ PyData.depthAll ts
  | [], _, _, e => by simp at e
  | x :: xs, 0, t, e => by
    simp at e
    subst e
    rw [PyData.depthAll]
    omega
  | x :: xs, i + 1, t, e => by
    have := depth_at (ts := xs) (i := i) (by simpa using e)
    rw [PyData.depthAll]
    omega
theorem lean_at : ∀ {ts : List PyData} {i : Nat} {t : PyData}, ts[i]? = some t → leanAll ts = true → lean t = true
  | [], _, _, e, _ => by simp at e
  | x :: xs, 0, t, e, h => by
    simp at e
    subst e
    rw [leanAll] at h
    exact (Bool.and_eq_true_iff.mp h).1
  | x :: xs, i + 1, t, e, h => by
    rw [leanAll] at h
    exact lean_at (ts := xs) (i := i) (by simpa using e) (Bool.and_eq_true_iff.mp h).2
theorem Rdd.ty {G : DH} {x : D} {t : PyData} : Rdd G x t → tyD G x = some (match t with
  | .none => "NoneType"
  | .bool _ => "bool"
  | .int _ => "int"
  | .str _ => "str"
  | .tuple _ => "tuple"
  | .list _ => "list"
  | .dict _ => "dict") := fun h => by
  cases h with
  | tup e r => exact tyD_tl e
  | lst e r =>
    unfold tyD
    dsimp only
    rw [e]
  | _ => rfl
theorem Rdd.nonN {G : DH} {x : D} {t : PyData} (h : Rdd G x t) (n : t ≠ .none) : x.isN = false := by
  cases h with
  | non => exact absurd rfl n
  | tup e r => exact isN_tl e
  | _ => rfl
theorem rangeD_len {lo : Int} {n : Nat} : (rangeD lo n).length = n := by unfold rangeD; rw [List.length_map, List.length_range]
theorem pure_seq {G : DH} {k : Nat} {x y : D} {lx ly : List D} {ts : List PyData} {R : DK} {EX : DX} (sx : seqOf G x = some lx) (sy : seqOf G y = some ly) (rx : RddL G lx ts) (ry : RddL G ly ts) (hd : PyData.depthAll ts + 1 ≤ k) (hl : ts.length ≤ 100000) (hla : leanAll ts = true) (q : R (.bl true) G) (δ : DS) (h0 : δ[0]? = some (some x)) (h1 : δ[1]? = some (some y)) (h3 : δ.length = 3) (up : ∀ G', Sub G G' → seqOf G' x = some lx ∧ seqOf G' y = some ly) :
    sRet (dCB dAll (dCons (dLc (iRange1 (dCB dLen (dCons (dVar 1) dNil))) (gN 2) dYes (dCall (sd__law_alike k) (dCons (dOp dIx (dVar 0) (dVar 2)) (dCons (dOp dIx (dVar 1) (dVar 2)) dNil))) [2]) dNil)) (endsD (frg R) EX) δ G := by
  have ex : lx.length = ts.length := rx.len
  have ey : ly.length = ts.length := ry.len
  obtain ⟨o0, o1, o2, rfl⟩ : ∃ o0 o1 o2, δ = [o0, o1, o2] := by
    match δ, h3 with
    | [a, b, c], _ => exact ⟨a, b, c, rfl⟩
  cases h0
  cases h1
  walk_at "rd"
  simp only [dLc, iRange1]
  walk_at "rd"
  simp only [dLen, len_seq sy]
  refine ⟨⟨by omega, by omega⟩, fun p hp => ?_⟩
  have eN : ((ly.length : Nat) : Int).toNat = ts.length := by omega
  rw [eN]
  refine goLc_map (fun _ => some (.bl true)) _ (by rw [rangeD_len, sizeLine_eq]; omega) (fun _ => trivial) ?_ fun z hz acc N hacc hN => ?_
  · have e : (rangeD 0 ts.length).filterMap (fun _ => some (D.bl true)) = (List.replicate ts.length true).map D.bl := by
      rw [List.map_replicate]
      unfold rangeD
      rw [List.filterMap_map]
      have : ∀ l : List Nat, l.filterMap ((fun _ => some (D.bl true)) ∘ fun i : Nat => D.int (0 + (i : Nat))) = List.replicate l.length (D.bl true) := fun l => by
        induction l with
        | nil => rfl
        | cons a l ih =>
          rw [List.filterMap_cons, ih]
          rfl
      rw [this, List.length_range]
    rw [e]
    refine ⟨_, updD_same, ?_⟩
    have e2 : (List.replicate ts.length true).all id = true := by
      rw [List.all_eq_true]
      intro b hb
      rw [(List.mem_replicate.mp hb).2]
      rfl
    rw [e2]
    exact ⟨G, Sub.new hp, q⟩
  · unfold rangeD at hz
    obtain ⟨i, hi, rfl⟩ := List.mem_map.mp hz
    have hi := List.mem_range.mp hi
    obtain ⟨dx, t, a1, a2, a3⟩ := rx.get hi
    obtain ⟨dy, t', b1, b2, b3⟩ := ry.get hi
    rw [a2] at b2
    cases b2
    have sG : Sub G (updD G p (.lst acc)) := Sub.new hp
    obtain ⟨u1, u2⟩ := up _ sG
    simp only [wipeD, dYes, dCall]
    walk_at "rd"
    rw [Int.zero_add]
    refine ix_seqd u1 (atI_nat a1) ?_
    refine ix_seqd u2 (atI_nat b1) ?_
    have dt := depth_at a2
    obtain ⟨j, rfl⟩ : ∃ j, k = j + 1 := ⟨k - 1, by omega⟩
    exact ⟨dx, dy, t, rfl, a3.sub sG, b3.sub sG, by omega, lean_at a2 hla, acc, updD_same, hacc, by rw [updD_updD]; exact hN⟩
theorem if_skip {c : DT} {A u : DSt} {Dn : DEnds} {δ : DS} {G : DH} (h : ∀ R' : Bool → DH → Prop, R' false G → c δ G R' Dn.ex) (h2 : u Dn δ G) : sSeq (sIf c A sNext) u Dn δ G := h _ h2
theorem if_take {c : DT} {A B u : DSt} {Dn : DEnds} {δ : DS} {G : DH} (h : ∀ R' : Bool → DH → Prop, R' true G → c δ G R' Dn.ex) (h2 : A { Dn with nx := u Dn } δ G) : sSeq (sIf c A B) u Dn δ G := h _ h2
theorem tst_isi {i : Nat} {x : D} {δ : DS} {G : DH} {t T : String} {b : Bool} {R : Bool → DH → Prop} {EX : DX} (hx : δ[i]? = some (some x)) (h : tyD G x = some t) (e : kitB t T = some b) (q : R b G) : dTest (dCB dIsi (dCons (dVar i) (dCons (dC (.ty T)) dNil))) δ G R EX := by
  simp only [dTest, dCB, dCons, dVar, hx, dC, dNil]
  exact isi_ty h e q
theorem val_isi {i : Nat} {x : D} {δ : DS} {G : DH} {t T : String} {b : Bool} {R : DK} {EX : DX} (hx : δ[i]? = some (some x)) (h : tyD G x = some t) (e : kitB t T = some b) (q : R (.bl b) G) : dCB dIsi (dCons (dVar i) (dCons (dC (.ty T)) dNil)) δ G R EX := by
  simp only [dCB, dCons, dVar, hx, dC, dNil]
  exact isi_ty h e q
theorem dNe_bl {b c : Bool} {G : DH} {R : DK} : dNe (.bl b) (.bl c) G R = R (.bl (!decide (b = c))) G := rfl
theorem dEq_bl {b c : Bool} {G : DH} {R : DK} : dEq (.bl b) (.bl c) G R = R (.bl (decide (b = c))) G := rfl
theorem dEq_str {b c : Str} {G : DH} {R : DK} : dEq (.str b) (.str c) G R = R (.bl (decide (b = c))) G := rfl
theorem ne_isi {x y : D} {G : DH} {t T : String} {b : Bool} {R : Bool → DH → Prop} {EX : DX} {o : Option D} (hx : tyD G x = some t) (hy : tyD G y = some t) (e : kitB t T = some b) (q : R false G) : dTest (dOp dNe (dCB dIsi (dCons (dVar 1) (dCons (dC (.ty T)) dNil))) (dCB dIsi (dCons (dVar 0) (dCons (dC (.ty T)) dNil)))) [some x, some y, o] G R EX := by
  simp only [dTest, dOp]
  refine val_isi rfl hy e ?_
  refine val_isi rfl hx e ?_
  rw [dNe_bl, blD_bl, decide_eq_true rfl]
  exact q
theorem ne_len {x y : D} {G : DH} {lx ly : List D} {R : Bool → DH → Prop} {EX : DX} {o : Option D} (hx : seqOf G x = some lx) (hy : seqOf G y = some ly) (e : lx.length = ly.length) (q : R false G) : dTest (dOp dNe (dCB dLen (dCons (dVar 0) dNil)) (dCB dLen (dCons (dVar 1) dNil))) [some x, some y, o] G R EX := by
  simp only [dTest, dOp, dCB, dCons, dNil, dVar, List.getElem?_cons_zero, List.getElem?_cons_succ, dLen, len_seq hx, len_seq hy, dNe_int, blD_bl, e, decide_true, Bool.not_true]
  exact q
theorem pure_alike (k : Nat) (ds : List D) (G : DH) (R : DK) (EX : DX) (h : sd__law_alike (k + 1) ds G R EX) : b__law_alike k (endsD (frg R) EX) (startD N__law_alike ds) G := by
  obtain ⟨x, y, t, rfl, rx, ry, hd, hl, q⟩ := h
  show b__law_alike k (endsD (frg R) EX) [some x, some y, none] G
  have tx := rx.ty
  have ty := ry.ty
  have q' : frg R (.bl true) G := frg_of q
  have skN : t ≠ .none → ∀ {u A : DSt}, u (endsD (frg R) EX) [some x, some y, none] G → sSeq (sIf (dTest (dOp dIsN (dVar 1) (dC .non))) A sNext) u (endsD (frg R) EX) [some x, some y, none] G := fun n u A h => if_skip (fun R' h' => by
    simp only [dTest, dOp, dVar, List.getElem?_cons_zero, List.getElem?_cons_succ, dC, dIsN, ry.nonN n, blD_bl]
    exact h') h
  have sk : ∀ {T tt : String}, tyD G y = some tt → kitB tt T = some false → ∀ {u A : DSt}, u (endsD (frg R) EX) [some x, some y, none] G → sSeq (sIf (dTest (dCB dIsi (dCons (dVar 1) (dCons (dC (.ty T)) dNil)))) A sNext) u (endsD (frg R) EX) [some x, some y, none] G := fun h e u A h2 => if_skip (fun R' h' => tst_isi rfl h e h') h2
  have tk : ∀ {T tt : String}, tyD G y = some tt → kitB tt T = some true → ∀ {u A : DSt}, A { endsD (frg R) EX with nx := u (endsD (frg R) EX) } [some x, some y, none] G → sSeq (sIf (dTest (dCB dIsi (dCons (dVar 1) (dCons (dC (.ty T)) dNil)))) A sNext) u (endsD (frg R) EX) [some x, some y, none] G := fun h e u A h2 => if_take (fun R' h' => tst_isi rfl h e h') h2
  unfold b__law_alike
  cases t with
  | none =>
    cases rx
    cases ry
    refine if_take (fun R' h' => h') ?_
    exact q'
  | bool b =>
    dsimp only at tx ty
    refine skN (by intro h; cases h) (tk ty (by decide +kernel) ?_)
    unfold sRet dAndV
    refine val_isi rfl tx (b := true) (by decide +kernel) ?_
    rw [blD_bl, if_pos rfl]
    cases rx
    cases ry
    simp only [dOp, dVar, List.getElem?_cons_zero, List.getElem?_cons_succ, dEq_bl, decide_true]
    exact q'
  | int i =>
    dsimp only at tx ty
    refine skN (by intro h; cases h) (sk ty (by decide +kernel) (tk ty (by decide +kernel) ?_))
    unfold sRet dAndV
    refine val_isi rfl tx (b := true) (by decide +kernel) ?_
    rw [blD_bl, if_pos rfl]
    unfold dNotV
    refine val_isi rfl tx (b := false) (by decide +kernel) ?_
    rw [blD_bl, blD_bl, Bool.not_false, if_pos rfl]
    cases rx
    cases ry
    simp only [dOp, dVar, List.getElem?_cons_zero, List.getElem?_cons_succ, dEq_int, decide_true]
    exact q'
  | str z =>
    dsimp only at tx ty
    refine skN (by intro h; cases h) (sk ty (by decide +kernel) (sk ty (by decide +kernel) (tk ty (by decide +kernel) ?_)))
    unfold sRet dAndV
    refine val_isi rfl tx (b := true) (by decide +kernel) ?_
    rw [blD_bl, if_pos rfl]
    cases rx
    cases ry
    simp only [dOp, dVar, List.getElem?_cons_zero, List.getElem?_cons_succ, dEq_str, decide_true]
    exact q'
  | tuple ts =>
    dsimp only at tx ty
    cases rx with
    | tup ex rx =>
      cases ry with
      | tup ey ry =>
        refine skN (by intro h; cases h) (sk ty (by decide +kernel) (sk ty (by decide +kernel) (sk ty (by decide +kernel) (if_skip (fun R' h' => ?_) (if_skip (fun R' h' => ?_) ?_)))))
        · unfold dOr
          refine ne_isi tx ty (b := true) (by decide +kernel) ?_
          rw [if_neg Bool.false_ne_true]
          exact ne_isi tx ty (b := false) (by decide +kernel) h'
        · exact ne_len (seq_tl ex) (seq_tl ey) (rx.len.trans ry.len.symm) h'
        · exact pure_seq (seq_tl ex) (seq_tl ey) rx ry (by rw [PyData.depth] at hd; exact hd) (by rw [lean] at hl; exact of_decide_eq_true (Bool.and_eq_true_iff.mp hl).1) (by rw [lean] at hl; exact (Bool.and_eq_true_iff.mp hl).2) q [some x, some y, none] rfl rfl rfl (fun G' s => ⟨seq_tl ex, seq_tl ey⟩)
  | list ts =>
    dsimp only at tx ty
    have hs : ∀ {z : D}, Rdd G z (.list ts) → ∃ l, seqOf G z = some l ∧ RddL G l ts ∧ ∀ G', Sub G G' → seqOf G' z = some l := fun {z} h => by
      cases h with
      | rol r => exact ⟨_, rfl, r, fun _ _ => rfl⟩
      | lst e r =>
        refine ⟨_, ?_, r, fun G' s => ?_⟩
        · unfold seqOf
          dsimp only
          rw [e]
        · unfold seqOf
          dsimp only
          rw [s _ _ e]
    obtain ⟨lx, ex, rx', ux⟩ := hs rx
    obtain ⟨ly, ey, ry', uy⟩ := hs ry
    refine skN (by intro h; cases h) (sk ty (by decide +kernel) (sk ty (by decide +kernel) (sk ty (by decide +kernel) (if_skip (fun R' h' => ?_) (if_skip (fun R' h' => ?_) ?_)))))
    · unfold dOr
      refine ne_isi tx ty (b := false) (by decide +kernel) ?_
      rw [if_neg Bool.false_ne_true]
      exact ne_isi tx ty (b := true) (by decide +kernel) h'
    · exact ne_len ex ey (rx'.len.trans ry'.len.symm) h'
    · exact pure_seq ex ey rx' ry' (by rw [PyData.depth] at hd; exact hd) (by rw [lean] at hl; exact of_decide_eq_true (Bool.and_eq_true_iff.mp hl).1) (by rw [lean] at hl; exact (Bool.and_eq_true_iff.mp hl).2) q [some x, some y, none] rfl rfl rfl (fun G' s => ⟨ux G' s, uy G' s⟩)
  | dict _ => cases rx
end Cc
/-! ### small facts of readings -/
namespace Cc
open PySem PySem.Spec PyProof.Rows L2
open PySem.W (EachIs AllAlike Sortable dataLe)
theorem sub_put {G G' : DH} {a : Addr} {c : C} (s : Sub G G') (h : G a = none) : Sub G (Cc.updD G' a c) := fun b u e => by
  have ne : b ≠ a := fun z => by subst z; rw [h] at e; cases e
  rw [updD_ne ne]
  exact s b u e
theorem Sub.fresh {G G' : DH} {a : Addr} (s : Sub G G') (h : G' a = none) : G a = none := by
  cases e : G a with
  | none => rfl
  | some c =>
    rw [s _ _ e] at h
    cases h
theorem keep_upd {G : DH} {a b : Addr} {c u : C} (h : G b = some u) (n : G a = none) : updD G a c b = some u := Sub.new n _ _ h
theorem iSq_cell {i : Nat} {δ : DS} {G : DH} {RR : List D → (DH → Prop) → DH → Prop} {EX : DX} {a : Addr} {l : List D} (hx : δ[i]? = some (some (.ref a))) (e : G a = some (.lst l)) (q : RR l (fun G => G a = some (.lst l)) G) : iSq (dVar i) δ G RR EX := by
  unfold iSq dVar
  rw [hx]
  exact ⟨l, e, q⟩
theorem each_app {α β : Type} {P : α → β → Prop} : ∀ {as as' : List α} {bs bs' : List β}, EachIs P as bs → EachIs P as' bs' → EachIs P (as ++ as') (bs ++ bs')
  | _, _, _, _, .nil, h => h
  | _, _, _, _, .cons h t, h' => .cons h (each_app t h')
theorem each_nil {α β : Type} {P : α → β → Prop} {bs : List β} (h : EachIs P [] bs) : bs = [] := by cases h; rfl
theorem each_cons {α β : Type} {P : α → β → Prop} {a : α} {as : List α} {bs : List β} (h : EachIs P (a :: as) bs) : ∃ b bs', bs = b :: bs' ∧ P a b ∧ EachIs P as bs' := by
  cases h with
  | cons h t => exact ⟨_, _, rfl, h, t⟩
theorem each_mem {α β : Type} {P : α → β → Prop} : ∀ {as : List α} {bs : List β}, EachIs P as bs → ∀ a ∈ as, ∃ b ∈ bs, P a b
  | _, _, .nil, _, h => by cases h
  | _, _, .cons h t, a, hm => by
    rcases List.mem_cons.mp hm with rfl | hm
    · exact ⟨_, List.mem_cons_self, h⟩
    · obtain ⟨b, h1, h2⟩ := each_mem t a hm
      exact ⟨b, List.mem_cons_of_mem _ h1, h2⟩
theorem each_map_l {α β γ : Type} {P : γ → β → Prop} {f : α → γ} : ∀ {as : List α} {bs : List β}, EachIs (fun a b => P (f a) b) as bs → EachIs P (as.map f) bs
  | _, _, .nil => .nil
  | _, _, .cons h t => .cons h (each_map_l t)
theorem lay_map {α : Type} {f : α → PyData} : ∀ {l : List α}, (∀ x ∈ l, (f x).canLay0 = true) → PyData.canLayAll0 (l.map f) = true
  | [], _ => by simp [PyData.canLayAll0]
  | x :: xs, h => by
    rw [List.map_cons, PyData.canLayAll0, h x List.mem_cons_self, lay_map fun y hy => h y (List.mem_cons_of_mem _ hy)]
    rfl
theorem dep_map {α : Type} {f : α → PyData} {n : Nat} : ∀ {l : List α}, (∀ x ∈ l, (f x).depth ≤ n) → PyData.depthAll (l.map f) ≤ n
  | [], _ => by simp [PyData.depthAll]
  | x :: xs, h => by
    have h1 := h x List.mem_cons_self
    have h2 := dep_map (f := f) (l := xs) fun y hy => h y (List.mem_cons_of_mem _ hy)
    rw [List.map_cons, PyData.depthAll]
    omega
theorem lean_map {α : Type} {f : α → PyData} : ∀ {l : List α}, (∀ x ∈ l, lean (f x) = true) → leanAll (l.map f) = true
  | [], _ => by simp [leanAll]
  | x :: xs, h => by
    rw [List.map_cons, leanAll, h x List.mem_cons_self, lean_map fun y hy => h y (List.mem_cons_of_mem _ hy)]
    rfl
theorem rdd_map {α : Type} {G : DH} {f : α → D} {g : α → PyData} : ∀ {l : List α}, (∀ x ∈ l, Rdd G (f x) (g x)) → RddL G (l.map f) (l.map g)
  | [], _ => .nil
  | x :: xs, h => .cons (h x List.mem_cons_self) (rdd_map fun y hy => h y (List.mem_cons_of_mem _ hy))
theorem rdd_each {β : Type} {G : DH} {P : D → β → Prop} {g : β → PyData} (h : ∀ a b, P a b → Rdd G a (g b)) : ∀ {as : List D} {bs : List β}, EachIs P as bs → RddL G as (bs.map g)
  | _, _, .nil => .nil
  | _, _, .cons p t => .cons (h _ _ p) (rdd_each h t)
theorem shaped_by {t : PyData} (h : t.canLay0 = true) (d : t.depth ≤ 64) : SeqAt.shaped t = true := by
  unfold SeqAt.shaped
  rw [h, decide_eq_true d]
  rfl
theorem rangeD_zero {lo : Int} : rangeD lo 0 = [] := rfl
theorem rangeD_succ {lo : Int} {n : Nat} : rangeD lo (n + 1) = .int lo :: rangeD (lo + 1) n := by
  unfold rangeD
  rw [List.range_succ_eq_map, List.map_cons, List.map_map]
  congr 1
  · simp
  · refine List.map_congr_left fun i _ => ?_
    show D.int (lo + ((i + 1 : Nat) : Int)) = D.int (lo + 1 + (i : Int))
    congr 1
    omega
theorem sortD_map {α : Type} {f : α → D} {g : α → PyData} (l : List α) : sortD (l.map f) (l.map g) = (l.mergeSort (dataLe false g)).map f := by
  unfold sortD
  have e : (l.map f).zip (l.map g) = l.map fun x => (f x, g x) := by
    rw [List.zip_map']
  rw [e, ← List.map_mergeSort (r := dataLe false g) (s := dataLe false Prod.snd) (f := fun x => (f x, g x)) (l := l) (fun a _ b _ => rfl), List.map_map]
  rfl
theorem lst_of {G : DH} {a : Addr} {l : List D} (h : G a = some (.lst l)) : lstOf G (.ref a) = some l := by
  unfold lstOf
  dsimp only
  rw [h]
/-- sorted(a list of data) -/
theorem sorted_map {α : Type} {f : α → D} {g : α → PyData} {l : List α} {G : DH} {a : Addr} {R : DK} (h : G a = some (.lst (l.map f))) (hr : ∀ x ∈ l, Rdd G (f x) (g x)) (hal : ∀ x y, PySem.W.alike (g x) (g y) = true) (hk : Sortable (l.map g)) (hd : ∀ x ∈ l, (g x).depth ≤ 40) (hl : l.length ≤ sizeLine)
    (q : ∀ p, G p = none → R (.ref p) (updD G p (.lst ((l.mergeSort (dataLe false g)).map f)))) : dSorted [.ref a] G R :=
  ⟨l.map f, l.map g, lst_of h, rdd_map hr, AllAlike.of fun x y => hal x y, hk, fun t ht => by
    obtain ⟨x, hx, rfl⟩ := List.mem_map.mp ht
    exact hd x hx, by rw [List.length_map]; exact hl, fun p hp => by rw [sortD_map]; exact q p hp⟩
theorem atI_mem {α : Type} {l : List α} {i : Int} (h0 : 0 ≤ i) (h1 : i < l.length) : ∃ d ∈ l, L2.atI l i = some d := by
  have hi : i.toNat < l.length := by omega
  refine ⟨l[i.toNat], List.getElem_mem hi, ?_⟩
  unfold L2.atI L2.ixN
  rw [if_pos h0, if_pos h1]
  exact List.getElem?_eq_getElem hi
end Cc
/-! ### reading by values: lemmas -/
namespace Cc
open PySem PySem.Spec PyProof.Rows L2
open PySem.W (EachIs AllAlike Sortable dataLe)
/-! items at written places -/
section
variable {α : Type} {a b c d e f g h : α} {l : List α}
theorem vat_0 : L2.atI (a :: l) 0 = some a := atI_nat (i := 0) rfl
theorem vat_1 : L2.atI (a :: b :: l) 1 = some b := atI_nat (i := 1) rfl
theorem vat_2 : L2.atI (a :: b :: c :: l) 2 = some c := atI_nat (i := 2) rfl
theorem vat_3 : L2.atI (a :: b :: c :: d :: l) 3 = some d := atI_nat (i := 3) rfl
theorem vat_4 : L2.atI (a :: b :: c :: d :: e :: l) 4 = some e := atI_nat (i := 4) rfl
theorem vat_5 : L2.atI (a :: b :: c :: d :: e :: f :: l) 5 = some f := atI_nat (i := 5) rfl
theorem vat_6 : L2.atI (a :: b :: c :: d :: e :: f :: g :: l) 6 = some g := atI_nat (i := 6) rfl
end
theorem vat_last {α : Type} {l : List α} (h : l ≠ []) : L2.atI l (-1) = some (l.getLast h) := by
  unfold L2.atI L2.ixN
  have hl : 0 < l.length := List.length_pos_iff.mpr h
  rw [if_neg (by omega), if_pos (by omega)]
  have e1 : (-1 + (l.length : Int)).toNat = l.length - 1 := by omega
  have e2 : ((l.length : Int) + -1).toNat = l.length - 1 := by omega
  have e3 : l[l.length - 1]? = some (l.getLast h) := by
    rw [← List.getLast?_eq_getElem?, List.getLast?_eq_some_getLast h]
  first
    | (simp only [e1, Option.bind_some]; exact e3)
    | (simp only [e2, Option.bind_some]; exact e3)
theorem vix_tup {l : List D} {i : Int} {G : DH} {R : DK} : dIx (.tup l) (.int i) G R = (match L2.atI l i with
  | some d => R d G
  | none => False) := rfl
theorem vix_rol {l : List D} {i : Int} {G : DH} {R : DK} : dIx (.rol l) (.int i) G R = (match L2.atI l i with
  | some d => R d G
  | none => False) := rfl
theorem vix_key {l : List Key} {i : Int} {G : DH} {R : DK} : dIx (.key l) (.int i) G R = (match L2.atI (l.map kD) i with
  | some d => R d G
  | none => False) := rfl
theorem vadd_int {i j : Int} {G : DH} {R : DK} : dAddF (.int i) (.int j) G R = R (.int (i + j)) G := rfl
theorem vadd_rol {l m : List D} {G : DH} {R : DK} : dAddF (.rol l) (.rol m) G R = (l.length + m.length ≤ sizeLine ∧ R (.rol (l ++ m)) G) := rfl
theorem vadd_tup {l m : List D} {G : DH} {R : DK} : dAddF (.tup l) (.tup m) G R = (l.length + m.length ≤ sizeLine ∧ R (.tup (l ++ m)) G) := rfl
theorem vadd_str {l m : Str} {G : DH} {R : DK} : dAddF (.str l) (.str m) G R = (l.length + m.length ≤ sizeLine ∧ R (.str (l ++ m)) G) := rfl
theorem vmul_int {i j : Int} {G : DH} {R : DK} : dMulF (.int i) (.int j) G R = (CMul i j ∧ R (.int (i * j)) G) := rfl
theorem vmul_rol {l : List D} {k : Int} {G : DH} {R : DK} : dMulF (.rol l) (.int k) G R = (-(2 ^ 63) ≤ k ∧ k < 2 ^ 63 ∧ l.length * k.toNat ≤ sizeLine ∧ R (.rol (List.replicate k.toNat l).flatten) G) := rfl
theorem vsub_int {i j : Int} {G : DH} {R : DK} : dSub (.int i) (.int j) G R = R (.int (i - j)) G := rfl
theorem vlt_int {i j : Int} {G : DH} {R : DK} : dLt (.int i) (.int j) G R = R (.bl (decide (i < j))) G := rfl
theorem vle_int {i j : Int} {G : DH} {R : DK} : dLe (.int i) (.int j) G R = R (.bl (decide (i ≤ j))) G := rfl
theorem vgt_int {i j : Int} {G : DH} {R : DK} : dGt (.int i) (.int j) G R = R (.bl (decide (i > j))) G := rfl
theorem vge_int {i j : Int} {G : DH} {R : DK} : dGe (.int i) (.int j) G R = R (.bl (decide (i ≥ j))) G := rfl
theorem vmax_int {i j : Int} {G : DH} {R : DK} : dMax2 [.int i, .int j] G R = R (.int (if j > i then j else i)) G := rfl
theorem vmin_int {i j : Int} {G : DH} {R : DK} : dMin2 [.int i, .int j] G R = R (.int (if j < i then j else i)) G := rfl
theorem vneg_int {i : Int} {G : DH} {R : DK} : dNeg (.int i) G R = R (.int (-i)) G := rfl
theorem vlen_tup {l : List D} {G : DH} {R : DK} : dLen [.tup l] G R = R (.int l.length) G := rfl
theorem vlen_rol {l : List D} {G : DH} {R : DK} : dLen [.rol l] G R = R (.int l.length) G := rfl
theorem vlen_at {G : DH} {a : Addr} {l : List D} {R : DK} (h : G a = some (.lst l)) (q : R (.int (l.length : Nat)) G) : dLen [.ref a] G R := by
  have e : lenOf G (.ref a) = some l.length := by
    unfold lenOf
    dsimp only
    rw [h]
  have z : (match lenOf G (.ref a) with
    | some n => R (.int n) G
    | none => False) := by
    rw [e]
    exact q
  exact z
theorem vlen_lst {l : List D} {a : Addr} {G : DH} {R : DK} (h : G a = some (.lst l)) (q : R (.int l.length) G) : dLen [.ref a] G R := vlen_at h q
theorem vtup_rol {l : List D} {G : DH} {R : DK} : dTupC [.rol l] G R = R (.tup l) G := rfl
theorem vtup_tup {l : List D} {G : DH} {R : DK} : dTupC [.tup l] G R = R (.tup l) G := rfl
theorem vlist_rol {l : List D} {G : DH} {R : DK} : dListF [.rol l] G R = R (.rol l) G := rfl
theorem vlist_tup {l : List D} {G : DH} {R : DK} : dListF [.tup l] G R = R (.rol l) G := rfl
theorem vsl_tup {l : List D} {lo hi : Option Int} {G : DH} {R : DK} : sSlF (.tup l) lo hi G R = R (.tup (cutD l lo hi)) G := rfl
theorem vsl_rol {l : List D} {lo hi : Option Int} {G : DH} {R : DK} : sSlF (.rol l) lo hi G R = R (.rol (cutD l lo hi)) G := rfl
theorem vsq_tup {l : List D} {RR : List D → (DH → Prop) → DH → Prop} {i : Nat} {δ : DS} {G : DH} {EX : DX} (e : δ[i]? = some (some (.tup l))) : iSq (dVar i) δ G RR EX = RR l (fun _ => True) G := by
  unfold iSq dVar
  rw [e]
theorem vcut_to {l : List D} {i : Nat} (h : i ≤ l.length) : cutD l none (some (i : Int)) = l.take i := by
  unfold cutD
  rw [HT.sIx_nat, HT.sIx_none, Nat.min_eq_left h, List.drop_zero, Nat.sub_zero]
theorem vcut_from {l : List D} {i : Nat} (h : i ≤ l.length) : cutD l (some (i : Int)) none = l.drop i := by
  unfold Cc.cutD
  rw [HT.sIx_nat, HT.sIx_none, Nat.min_eq_left h]
  rw [List.take_of_length_le]
  rw [List.length_drop]
  omega
theorem visi_non_bool {G : DH} {R : DK} : dIsi [.non, .ty "bool"] G R = R (.bl false) G := by
  have e : kitB "NoneType" "bool" = some false := by decide
  simp only [dIsi, tyD, e]
theorem visi_non_int {G : DH} {R : DK} : dIsi [.non, .ty "int"] G R = R (.bl false) G := by
  have e : kitB "NoneType" "int" = some false := by decide
  simp only [dIsi, tyD, e]
theorem visi_non_str {G : DH} {R : DK} : dIsi [.non, .ty "str"] G R = R (.bl false) G := by
  have e : kitB "NoneType" "str" = some false := by decide
  simp only [dIsi, tyD, e]
theorem visi_non_tuple {G : DH} {R : DK} : dIsi [.non, .ty "tuple"] G R = R (.bl false) G := by
  have e : kitB "NoneType" "tuple" = some false := by decide
  simp only [dIsi, tyD, e]
theorem visi_non_list {G : DH} {R : DK} : dIsi [.non, .ty "list"] G R = R (.bl false) G := by
  have e : kitB "NoneType" "list" = some false := by decide
  simp only [dIsi, tyD, e]
theorem visi_bl_bool {b : Bool} {G : DH} {R : DK} : dIsi [(.bl b), .ty "bool"] G R = R (.bl true) G := by
  have e : kitB "bool" "bool" = some true := by decide
  simp only [dIsi, tyD, e]
theorem visi_bl_int {b : Bool} {G : DH} {R : DK} : dIsi [(.bl b), .ty "int"] G R = R (.bl true) G := by
  have e : kitB "bool" "int" = some true := by decide
  simp only [dIsi, tyD, e]
theorem visi_bl_str {b : Bool} {G : DH} {R : DK} : dIsi [(.bl b), .ty "str"] G R = R (.bl false) G := by
  have e : kitB "bool" "str" = some false := by decide
  simp only [dIsi, tyD, e]
theorem visi_bl_tuple {b : Bool} {G : DH} {R : DK} : dIsi [(.bl b), .ty "tuple"] G R = R (.bl false) G := by
  have e : kitB "bool" "tuple" = some false := by decide
  simp only [dIsi, tyD, e]
theorem visi_bl_list {b : Bool} {G : DH} {R : DK} : dIsi [(.bl b), .ty "list"] G R = R (.bl false) G := by
  have e : kitB "bool" "list" = some false := by decide
  simp only [dIsi, tyD, e]
theorem visi_int_bool {i : Int} {G : DH} {R : DK} : dIsi [(.int i), .ty "bool"] G R = R (.bl false) G := by
  have e : kitB "int" "bool" = some false := by decide
  simp only [dIsi, tyD, e]
theorem visi_int_int {i : Int} {G : DH} {R : DK} : dIsi [(.int i), .ty "int"] G R = R (.bl true) G := by
  have e : kitB "int" "int" = some true := by decide
  simp only [dIsi, tyD, e]
theorem visi_int_str {i : Int} {G : DH} {R : DK} : dIsi [(.int i), .ty "str"] G R = R (.bl false) G := by
  have e : kitB "int" "str" = some false := by decide
  simp only [dIsi, tyD, e]
theorem visi_int_tuple {i : Int} {G : DH} {R : DK} : dIsi [(.int i), .ty "tuple"] G R = R (.bl false) G := by
  have e : kitB "int" "tuple" = some false := by decide
  simp only [dIsi, tyD, e]
theorem visi_int_list {i : Int} {G : DH} {R : DK} : dIsi [(.int i), .ty "list"] G R = R (.bl false) G := by
  have e : kitB "int" "list" = some false := by decide
  simp only [dIsi, tyD, e]
theorem visi_str_bool {z : Str} {G : DH} {R : DK} : dIsi [(.str z), .ty "bool"] G R = R (.bl false) G := by
  have e : kitB "str" "bool" = some false := by decide
  simp only [dIsi, tyD, e]
theorem visi_str_int {z : Str} {G : DH} {R : DK} : dIsi [(.str z), .ty "int"] G R = R (.bl false) G := by
  have e : kitB "str" "int" = some false := by decide
  simp only [dIsi, tyD, e]
theorem visi_str_str {z : Str} {G : DH} {R : DK} : dIsi [(.str z), .ty "str"] G R = R (.bl true) G := by
  have e : kitB "str" "str" = some true := by decide
  simp only [dIsi, tyD, e]
theorem visi_str_tuple {z : Str} {G : DH} {R : DK} : dIsi [(.str z), .ty "tuple"] G R = R (.bl false) G := by
  have e : kitB "str" "tuple" = some false := by decide
  simp only [dIsi, tyD, e]
theorem visi_str_list {z : Str} {G : DH} {R : DK} : dIsi [(.str z), .ty "list"] G R = R (.bl false) G := by
  have e : kitB "str" "list" = some false := by decide
  simp only [dIsi, tyD, e]
theorem visi_tup_bool {l : List D} {G : DH} {R : DK} : dIsi [(.tup l), .ty "bool"] G R = R (.bl false) G := by
  have e : kitB "tuple" "bool" = some false := by decide
  simp only [dIsi, tyD, e]
theorem visi_tup_int {l : List D} {G : DH} {R : DK} : dIsi [(.tup l), .ty "int"] G R = R (.bl false) G := by
  have e : kitB "tuple" "int" = some false := by decide
  simp only [dIsi, tyD, e]
theorem visi_tup_str {l : List D} {G : DH} {R : DK} : dIsi [(.tup l), .ty "str"] G R = R (.bl false) G := by
  have e : kitB "tuple" "str" = some false := by decide
  simp only [dIsi, tyD, e]
theorem visi_tup_tuple {l : List D} {G : DH} {R : DK} : dIsi [(.tup l), .ty "tuple"] G R = R (.bl true) G := by
  have e : kitB "tuple" "tuple" = some true := by decide
  simp only [dIsi, tyD, e]
theorem visi_tup_list {l : List D} {G : DH} {R : DK} : dIsi [(.tup l), .ty "list"] G R = R (.bl false) G := by
  have e : kitB "tuple" "list" = some false := by decide
  simp only [dIsi, tyD, e]
theorem visi_key_bool {l : List Key} {G : DH} {R : DK} : dIsi [(.key l), .ty "bool"] G R = R (.bl false) G := by
  have e : kitB "tuple" "bool" = some false := by decide
  simp only [dIsi, tyD, e]
theorem visi_key_int {l : List Key} {G : DH} {R : DK} : dIsi [(.key l), .ty "int"] G R = R (.bl false) G := by
  have e : kitB "tuple" "int" = some false := by decide
  simp only [dIsi, tyD, e]
theorem visi_key_str {l : List Key} {G : DH} {R : DK} : dIsi [(.key l), .ty "str"] G R = R (.bl false) G := by
  have e : kitB "tuple" "str" = some false := by decide
  simp only [dIsi, tyD, e]
theorem visi_key_tuple {l : List Key} {G : DH} {R : DK} : dIsi [(.key l), .ty "tuple"] G R = R (.bl true) G := by
  have e : kitB "tuple" "tuple" = some true := by decide
  simp only [dIsi, tyD, e]
theorem visi_key_list {l : List Key} {G : DH} {R : DK} : dIsi [(.key l), .ty "list"] G R = R (.bl false) G := by
  have e : kitB "tuple" "list" = some false := by decide
  simp only [dIsi, tyD, e]
theorem visi_rol_bool {l : List D} {G : DH} {R : DK} : dIsi [(.rol l), .ty "bool"] G R = R (.bl false) G := by
  have e : kitB "list" "bool" = some false := by decide
  simp only [dIsi, tyD, e]
theorem visi_rol_int {l : List D} {G : DH} {R : DK} : dIsi [(.rol l), .ty "int"] G R = R (.bl false) G := by
  have e : kitB "list" "int" = some false := by decide
  simp only [dIsi, tyD, e]
theorem visi_rol_str {l : List D} {G : DH} {R : DK} : dIsi [(.rol l), .ty "str"] G R = R (.bl false) G := by
  have e : kitB "list" "str" = some false := by decide
  simp only [dIsi, tyD, e]
theorem visi_rol_tuple {l : List D} {G : DH} {R : DK} : dIsi [(.rol l), .ty "tuple"] G R = R (.bl false) G := by
  have e : kitB "list" "tuple" = some false := by decide
  simp only [dIsi, tyD, e]
theorem visi_rol_list {l : List D} {G : DH} {R : DK} : dIsi [(.rol l), .ty "list"] G R = R (.bl true) G := by
  have e : kitB "list" "list" = some true := by decide
  simp only [dIsi, tyD, e]
theorem vtyL {G : DH} {f : Addr} {l : List D} : tyR (updD G f (.lst l)) "list" (.ref f) = True := by
  unfold tyR
  dsimp only
  rw [updD_same]
  simp
theorem vapp {G : DH} {f : Addr} {l : List D} {y : D} {R : DK} : mAppend (.ref f) [y] (updD G f (.lst l)) R = (l.length < sizeLine ∧ R .non (updD G f (.lst (l ++ [y])))) := by
  unfold mAppend
  refine propext ⟨fun ⟨m, e, h, q⟩ => ?_, fun ⟨h, q⟩ => ⟨l, updD_same, h, by rw [updD_updD]; exact q⟩⟩
  rw [updD_same] at e
  cases e
  rw [updD_updD] at q
  exact ⟨h, q⟩
theorem vlen_upd {G : DH} {f : Addr} {l : List D} {R : DK} : dLen [.ref f] (updD G f (.lst l)) R = R (.int l.length) (updD G f (.lst l)) := by
  have e : lenOf (updD G f (.lst l)) (.ref f) = some l.length := by
    unfold lenOf
    dsimp only
    rw [updD_same]
  simp only [dLen, e]
theorem vix_upd {G : DH} {f : Addr} {l : List D} {i : Int} {R : DK} : dIx (.ref f) (.int i) (updD G f (.lst l)) R = (match L2.atI l i with
  | some d => R d (updD G f (.lst l))
  | none => False) := by
  have e : itemOf (updD G f (.lst l)) (.ref f) (.int i) = L2.atI l i := by
    unfold itemOf
    dsimp only
    rw [updD_same]
  unfold dIx
  rw [e]
  all_goals (cases L2.atI l i <;> rfl)
theorem vsz_0 : (0 ≤ sizeLine) = True := by rw [sizeLine_eq]; simp
theorem vsz_1 : (0 + 1 ≤ sizeLine) = True := by rw [sizeLine_eq]; simp
theorem vsz_2 : (0 + 1 + 1 ≤ sizeLine) = True := by rw [sizeLine_eq]; simp
theorem vsz_3 : (0 + 1 + 1 + 1 ≤ sizeLine) = True := by rw [sizeLine_eq]; simp
theorem vsz_4 : (0 + 1 + 1 + 1 + 1 ≤ sizeLine) = True := by rw [sizeLine_eq]; simp
theorem vsz_5 : (0 + 1 + 1 + 1 + 1 + 1 ≤ sizeLine) = True := by rw [sizeLine_eq]; simp
theorem vsz_6 : (0 + 1 + 1 + 1 + 1 + 1 + 1 ≤ sizeLine) = True := by rw [sizeLine_eq]; simp
theorem vsz_7 : (0 + 1 + 1 + 1 + 1 + 1 + 1 + 1 ≤ sizeLine) = True := by rw [sizeLine_eq]; simp
theorem vsz_8 : (0 + 1 + 1 + 1 + 1 + 1 + 1 + 1 + 1 ≤ sizeLine) = True := by rw [sizeLine_eq]; simp
theorem vsz_9 : (0 + 1 + 1 + 1 + 1 + 1 + 1 + 1 + 1 + 1 ≤ sizeLine) = True := by rw [sizeLine_eq]; simp
/-! loops over what is told by a list of things -/
theorem goFor_map {α : Type} {ok : DH → Prop} {g : DG} {tb : DSt} {Dn : DEnds} {f : α → D} (I : List α → DS → DH → Prop) (hok : ∀ xs δ G, I xs δ G → ok G) (hnil : ∀ δ G, I [] δ G → Dn.nx δ G)
    (hs : ∀ x xs δ G (N : DS → DH → Prop), I (x :: xs) δ G → (∀ δ' G', I xs δ' G' → N δ' G') → g (f x) δ G (fun δ2 G2 => tb { Dn with nx := N, ct := N, bk := Dn.nx } δ2 G2) Dn.ex) :
    ∀ (l : List α) (δ : DS) (G : DH), I l δ G → goFor ok g tb Dn (l.map f) δ G
  | [], δ, G, h => ⟨hok _ _ _ h, hnil _ _ h⟩
  | x :: xs, δ, G, h => ⟨hok _ _ _ h, hs x xs δ G _ h fun δ' G' h' => goFor_map I hok hnil hs xs δ' G' h'⟩
/-- a comprehension that changes nothing -/
theorem goLcF_map {α : Type} {ok : DH → Prop} {g : DG} {tt : DT} {te : DE} {k : List D → DH → Prop} {δ : DS} {G : DH} {f : α → D} (F : α → Option D) (hok : ok G)
    (hs : ∀ (x : α) (C1 : DK) (C2 : DH → Prop), (match F x with
      | none => C2 G
      | some y => C1 y G) → g (f x) δ G (fun δ2 G2 => tt δ2 G2 (fun b G3 => if b = true then te δ2 G3 C1 noX else C2 G3) noX) noX) :
    ∀ (l : List α) (acc : List D), acc.length + l.length ≤ sizeLine → k (acc ++ l.filterMap F) G → goLcF ok g tt te k δ acc (l.map f) G
  | [], acc, _, q => by
    rw [List.filterMap_nil, List.append_nil] at q
    exact ⟨hok, q⟩
  | x :: xs, acc, hl, q => by
    refine ⟨hok, hs x _ _ ?_⟩
    rw [List.length_cons] at hl
    cases e : F x with
    | none =>
      rw [List.filterMap_cons, e] at q
      exact goLcF_map F hok hs xs acc (by omega) q
    | some y =>
      rw [List.filterMap_cons, e] at q
      refine ⟨by omega, goLcF_map F hok hs xs (acc ++ [y]) (by rw [List.length_append]; simp; omega) ?_⟩
      rw [List.append_assoc]
      exact q
/-- .. of the things of the list alone -/
theorem goLcF_mem {α : Type} {ok : DH → Prop} {g : DG} {tt : DT} {te : DE} {k : List D → DH → Prop} {δ : DS} {G : DH} {f : α → D} (F : α → Option D) (hok : ok G) :
    ∀ (l : List α) (acc : List D), (∀ x ∈ l, ∀ (C1 : DK) (C2 : DH → Prop), (match F x with
      | none => C2 G
      | some y => C1 y G) → g (f x) δ G (fun δ2 G2 => tt δ2 G2 (fun b G3 => if b = true then te δ2 G3 C1 noX else C2 G3) noX) noX) → acc.length + l.length ≤ sizeLine → k (acc ++ l.filterMap F) G → goLcF ok g tt te k δ acc (l.map f) G
  | [], acc, _, _, q => by
    rw [List.filterMap_nil, List.append_nil] at q
    exact ⟨hok, q⟩
  | x :: xs, acc, hs, hl, q => by
    refine ⟨hok, hs x List.mem_cons_self _ _ ?_⟩
    rw [List.length_cons] at hl
    have hs' := fun y hy => hs y (List.mem_cons_of_mem _ hy)
    cases e : F x with
    | none =>
      rw [List.filterMap_cons, e] at q
      exact goLcF_mem F hok xs acc hs' (by omega) q
    | some y =>
      rw [List.filterMap_cons, e] at q
      refine ⟨by omega, goLcF_mem F hok xs (acc ++ [y]) hs' (by rw [List.length_append]; simp; omega) ?_⟩
      rw [List.append_assoc]
      exact q
/-- a comprehension by its invariant -/
theorem goLcF_inv {α : Type} {ok : DH → Prop} {g : DG} {tt : DT} {te : DE} {k : List D → DH → Prop} {δ : DS} {f : α → D} (I : List α → List D → DH → Prop) (hok : ∀ xs acc G, I xs acc G → ok G) (hlen : ∀ xs acc G, I xs acc G → acc.length < sizeLine) (hend : ∀ acc G, I [] acc G → k acc G)
    (hs : ∀ (x : α) (xs : List α) (acc : List D) (G : DH) (C1 : DK) (C2 : DH → Prop), I (x :: xs) acc G → (∀ y G', I xs (acc ++ [y]) G' → C1 y G') → (∀ G', I xs acc G' → C2 G') → g (f x) δ G (fun δ2 G2 => tt δ2 G2 (fun b G3 => if b = true then te δ2 G3 C1 noX else C2 G3) noX) noX) :
    ∀ (l : List α) (acc : List D) (G : DH), I l acc G → goLcF ok g tt te k δ acc (l.map f) G
  | [], acc, G, h => ⟨hok _ _ _ h, hend _ _ h⟩
  | x :: xs, acc, G, h => ⟨hok _ _ _ h, hs x xs acc G _ _ h (fun y G' h' => ⟨hlen _ _ _ h, goLcF_inv I hok hlen hend hs xs _ _ h'⟩) fun G' h' => goLcF_inv I hok hlen hend hs xs _ _ h'⟩
theorem rangeD_map (n : Nat) : rangeD 0 n = (List.range n).map fun i : Nat => D.int (i : Int) := by
  unfold rangeD
  refine List.map_congr_left fun i _ => ?_
  rw [Int.zero_add]
theorem sz_small {n : Nat} (h : n ≤ 100000) : n ≤ sizeLine := by rw [sizeLine_eq]; omega
/-- sorted by an int key: a model list -/
theorem sortG_map {α : Type} {f : α → D} {key : α → Int} (l : List α) : sortG PyData.int (l.map f) (l.map key) = (l.mergeSort fun a b => decide (key a ≤ key b)).map f := by
  unfold sortG
  have e : (l.map f).zip (l.map key) = l.map fun x => (f x, key x) := by
    rw [List.zip_map']
  rw [e, PySem.W.dataLe_int (fun b : D × Int => b.2)]
  rw [← List.map_mergeSort (r := fun a b => decide (key a ≤ key b)) (s := fun a b : D × Int => decide (a.2 ≤ b.2)) (f := fun x => (f x, key x)) (l := l) (fun a _ b _ => rfl), List.map_map]
  rfl
end Cc
/-! ### dicts: {}, get, setdefault, d[k] = v, sorted(d); targets o.f -/
namespace Cc
open PySem PySem.Spec PyProof.Rows L2
section
variable {X : Cx} {E : EK} {o e f : Expr} {pos apos cpos : Pos} {da db dc : DE}
/-- {}, its keys ints or texts -/
def dNewK : DE := fun _ G R _ => ∀ p, G p = none → R (.ref p) (updD G p (.dK []))
/-- {}, its keys tuples -/
def dNewT : DE := fun _ G R _ => ∀ p, G p = none → R (.ref p) (updD G p (.dT []))
theorem pd_newK : PD X E (.Dict [] [] pos) dNewK :=
  ⟨imE pe_dnewK fun σ H Q ⟨δ, G, R, EX, sr, hr, h, cr, cx⟩ => fun p hp => cr _ _ _ _ (Up.new hp) (hr.new (c := .dK []) hp ⟨[], upd_same, .nil⟩) (.ref p) (h p (hr.none hp))⟩
theorem pd_newT : PD X E (.Dict [] [] pos) dNewT :=
  ⟨imE pe_dnewT fun σ H Q ⟨δ, G, R, EX, sr, hr, h, cr, cx⟩ => fun p hp => cr _ _ _ _ (Up.new hp) (hr.new (c := .dT []) hp ⟨[], upd_same, .nil⟩) (.ref p) (h p (hr.none hp))⟩
/-- x is a dict -/
def isDict (G : DH) (x : D) : Prop := match x with
  | .ref a => (match G a with
    | some (.dK _) => True
    | some (.dT _) => True
    | _ => False)
  | .rod _ => True
  | _ => False
/-- what a dict holds of y -/
def getOf (G : DH) (x y : D) : Option (Option D) := match x with
  | .ref a => (match G a with
    | some (.dK kvs) => y.ky.map (lookK kvs)
    | some (.dT kvs) => (match y with
      | .key ks => some (lookK kvs ks)
      | _ => none)
    | _ => none)
  | .rod kvs => y.ky.map (lookK kvs)
  | _ => none
theorem isDict_v {K : KT} {G : DH} {H : Hp} {v : V} {x : D} (hr : HRel K G H) (r : Dv K H v x) (h : isDict G x) : ∃ a, v = .ref a ∧ IsD H a := by
  unfold isDict at h
  split at h
  · cases r
    split at h
    · rename_i a kvs ea
      obtain ⟨ys, e, _⟩ := hr _ _ ea
      exact ⟨_, rfl, .inl ⟨ys, .inl e⟩⟩
    · rename_i a kvs ea
      obtain ⟨ys, e, _⟩ := hr _ _ ea
      exact ⟨_, rfl, .inr ⟨ys, .inl e⟩⟩
    · exact False.elim h
  · cases r with
    | rod hq _ =>
      obtain ⟨o, hq⟩ := hq
      exact ⟨_, rfl, .inl ⟨_, .inr ⟨o, hq⟩⟩⟩
  · exact False.elim h
theorem getOf_v {K : KT} {G : DH} {H : Hp} {v w : V} {x y : D} {r : Option D} (hr : HRel K G H) (rx : Dv K H v x) (ry : Dv K H w y) (h : getOf G x y = some r) :
    ∃ a u, v = .ref a ∧ DGet H a w u ∧ (∀ d, r = some d → ∃ z, u = some z ∧ Dv K H z d) ∧ (r = none → u = none) := by
  have lk : ∀ {κ : Type} [DecidableEq κ] {ys : List (κ × V)} {kvs : List (κ × D)} (k : κ), KVr K H ys kvs → (∀ d, lookK kvs k = some d → ∃ z, valV ys k = some z ∧ Dv K H z d) ∧ (lookK kvs k = none → valV ys k = none) := fun k r => ⟨fun d e => r.look e, fun e => r.lookN e⟩
  unfold getOf at h
  split at h
  · cases rx
    split at h
    · rename_i a kvs ea
      obtain ⟨k, e1, e2⟩ := Option.map_eq_some_iff.mp h
      obtain ⟨ys, e3, r3⟩ := hr _ _ ea
      subst e2
      rw [ky_v ry e1]
      exact ⟨_, _, rfl, DGet.k e3, (lk k r3).1, (lk k r3).2⟩
    · rename_i a kvs ea
      split at h
      · cases h
        cases ry with
        | key eb =>
          obtain ⟨ys, e3, r3⟩ := hr _ _ ea
          exact ⟨_, _, rfl, DGet.t e3 eb, (lk _ r3).1, (lk _ r3).2⟩
      · cases h
    · cases h
  · obtain ⟨k, e1, e2⟩ := Option.map_eq_some_iff.mp h
    subst e2
    rw [ky_v ry e1]
    cases rx with
    | rod hq r3 =>
      obtain ⟨o, hq⟩ := hq
      exact ⟨_, _, rfl, .inl ⟨_, k, .inr ⟨o, hq⟩, rfl, rfl⟩, (lk k r3.kvr).1, (lk k r3.kvr).2⟩
  · cases h
/-- d.get(y, z) -/
def dGet2 (da db dc : DE) : DE := fun δ G R EX => da δ G (fun x G1 => isDict G1 x ∧ db δ G1 (fun y G2 => dc δ G2 (fun z G3 => match getOf G3 x y with
  | some r => R (r.getD z) G3
  | none => False) EX) EX) EX
theorem pd_get2 (hu : X.A.units + 1 < cLine) (ha : PD X E o da) (hb : PD X E e db) (hc : PD X E f dc) (m : M2 X o "get" apos e f cpos) : PD X E (.Call (.Attribute o "get" apos) [e, f] [] cpos) (dGet2 da db dc) :=
  ⟨imE (pe_dget2 hu ha.pe hb.pe hc.pe m) fun σ H Q ⟨δ, G, R, EX, sr, hr, h, cr, cx⟩ => ⟨δ, G, _, EX, sr, hr, h, fun v H1 x G1 u1 h1 r1 ⟨q0, q1⟩ => by
    obtain ⟨a, e1, e2⟩ := isDict_v h1 r1 q0
    refine ⟨a, e1, e2, δ, G1, _, EX, sr.up u1, h1, q1, fun w H2 y G2 u2 h2 r2 q2 => ⟨δ, G2, _, EX, sr.up (u1.trans u2), h2, q2, fun w3 H3 z G3 u3 h3 r3 q3 => ?_, cx.up (u1.trans u2)⟩, cx.up u1⟩
    dsimp only at q3
    split at q3
    · rename_i r er
      obtain ⟨a', u, e3, e4, e5, e6⟩ := getOf_v h3 (r1.up (u2.trans u3)) (r2.up u3) er
      rw [e1] at e3
      cases e3
      have u123 := u1.trans (u2.trans u3)
      cases r with
      | none =>
        rw [e6 rfl] at e4
        exact ⟨none, e4, cr _ _ _ _ u123 h3 r3 q3⟩
      | some d =>
        obtain ⟨z', e7, e8⟩ := e5 d rfl
        rw [e7] at e4
        exact ⟨some z', e4, cr _ _ _ _ u123 h3 e8 q3⟩
    · exact False.elim q3, cx⟩⟩
/-- in its place, or at the end -/
def putD {κ : Type} [DecidableEq κ] (kvs : List (κ × D)) (k : κ) (v : D) : List (κ × D) :=
  if (kvs.any fun kv => decide (kv.1 = k)) = true then kvs.map (fun kv => if kv.1 = k then (kv.1, v) else kv) else kvs ++ [(k, v)]
theorem KVr.any {K : KT} {H : Hp} {κ : Type} [DecidableEq κ] {xs : List (κ × V)} {ys : List (κ × D)} (k : κ) (r : KVr K H xs ys) : (xs.any fun kv => decide (kv.1 = k)) = (ys.any fun kv => decide (kv.1 = k)) := by
  induction r with
  | nil => rfl
  | @cons p q l m h t ih => rw [List.any_cons, List.any_cons, ih, h.1]
theorem KVr.app {K : KT} {H : Hp} {κ : Type} {xs xs' : List (κ × V)} {ys ys' : List (κ × D)} (r : KVr K H xs ys) (r' : KVr K H xs' ys') : KVr K H (xs ++ xs') (ys ++ ys') := by
  induction r with
  | nil => exact r'
  | @cons p q l m h t ih => exact .cons h ih
theorem KVr.mapPut {K : KT} {H : Hp} {κ : Type} [DecidableEq κ] {xs : List (κ × V)} {ys : List (κ × D)} {k : κ} {v : V} {d : D} (rv : Dv K H v d) (r : KVr K H xs ys) : KVr K H (xs.map fun kv => if kv.1 = k then (kv.1, v) else kv) (ys.map fun kv => if kv.1 = k then (kv.1, d) else kv) := by
  induction r with
  | nil => exact .nil
  | @cons p q l m h t ih =>
    rw [List.map_cons, List.map_cons]
    refine .cons ?_ ih
    by_cases hk : q.1 = k
    · rw [if_pos hk, if_pos (h.1.trans hk)]
      exact ⟨h.1, rv⟩
    · rw [if_neg hk, if_neg fun z => hk (h.1 ▸ z)]
      exact h
theorem KVr.putD {K : KT} {H : Hp} {κ : Type} [DecidableEq κ] {xs : List (κ × V)} {ys : List (κ × D)} {k : κ} {v : V} {d : D} (rv : Dv K H v d) (r : KVr K H xs ys) : KVr K H (putK xs k v) (Cc.putD ys k d) := by
  unfold putK Cc.putD
  rw [r.any k]
  split
  · exact r.mapPut rv
  · exact r.app (.cons ⟨rfl, rv⟩ .nil)
/-- d.setdefault(y, z), its keys ints or texts -/
def dSetd (da db dc : DE) : DE := fun δ G R EX => da δ G (fun x G1 => isDict G1 x ∧ db δ G1 (fun y G2 => dc δ G2 (fun z G3 => ∃ a kvs k, x = .ref a ∧ G3 a = some (.dK kvs) ∧ y.ky = some k ∧ kvs.length < sizeLine ∧ (match lookK kvs k with
  | some v => R v G3
  | none => R z (updD G3 a (.dK (putD kvs k z))))) EX) EX) EX
theorem pd_setd (ha : PD X E o da) (hb : PD X E e db) (hc : PD X E f dc) (m : M2 X o "setdefault" apos e f cpos) : PD X E (.Call (.Attribute o "setdefault" apos) [e, f] [] cpos) (dSetd da db dc) :=
  ⟨imE (pe_dsetd ha.pe hb.pe hc.pe m) fun σ H Q ⟨δ, G, R, EX, sr, hr, h, cr, cx⟩ => ⟨δ, G, _, EX, sr, hr, h, fun v H1 x G1 u1 h1 r1 ⟨q0, q1⟩ => by
    obtain ⟨a, e1, e2⟩ := isDict_v h1 r1 q0
    refine ⟨a, e1, e2, δ, G1, _, EX, sr.up u1, h1, q1, fun w H2 y G2 u2 h2 r2 q2 => ⟨δ, G2, _, EX, sr.up (u1.trans u2), h2, q2, fun w3 H3 z G3 u3 h3 r3 q3 => ?_, cx.up (u1.trans u2)⟩, cx.up u1⟩
    obtain ⟨a', kvs, k, ex, ea, ek, hl, q3⟩ := q3
    subst ex
    cases r1
    cases e1
    obtain ⟨ys, e3, r4⟩ := h3 _ _ ea
    have u123 := u1.trans (u2.trans u3)
    have u : ∀ o, Up H3 (upd H3 _ o) := fun o => Up.put e3 trivial
    refine ⟨ys, k, e3, ky_v (r2.up u3) ek, by rw [r4.len]; exact hl, fun z' hz => ?_, fun hz => ?_⟩
    · cases el : lookK kvs k with
      | none => rw [r4.lookN el] at hz; cases hz
      | some d =>
        rw [el] at q3
        obtain ⟨z2, e5, e6⟩ := r4.look el
        rw [hz] at e5
        cases e5
        exact cr _ _ _ _ u123 h3 e6 q3
    · cases el : lookK kvs k with
      | some d =>
        obtain ⟨z2, e5, e6⟩ := r4.look el
        rw [hz] at e5
        cases e5
      | none =>
        rw [el] at q3
        exact cr _ _ _ _ (u123.trans (u _)) (h3.put (c := .dK (putD kvs k z)) e3 trivial ⟨_, upd_same, KVr.putD (r3.up (u _)) (r4.up (u _))⟩) (r3.up (u _)) q3, cx⟩⟩
/-- stores by key -/
def rSetD : TSet := fun o i v H R => ∃ a H', o = .ref a ∧ DPut H a i v H' ∧ R H'
theorem set_dict (hu : X.A.units + 1 < cLine) : PSet X rSetD := fun pins s σ H o i v ov iv u Q I ro ri rv ⟨a, H', eo, g, q⟩ => by
  subst eo
  obtain rfl : ov = Value.ref a := ro
  exact d_setItem hu I g ri rv fun s' I' => ⟨H', I', q⟩
def dSetD : DSet := fun o i v G R => match o with
  | .ref a => (match G a with
    | some (.dK kvs) => ∃ k, i.ky = some k ∧ kvs.length < sizeLine ∧ R (updD G a (.dK (putD kvs k v)))
    | some (.dT kvs) => (match i with
      | .key ks => kvs.length < sizeLine ∧ R (updD G a (.dT (putD kvs ks v)))
      | _ => False)
    | _ => False)
  | _ => False
theorem set_dictD (hu : X.A.units + 1 < cLine) : PSet X rSetD ∧ ∀ T, LiftSet (X.K, T) rSetD dSetD := ⟨set_dict hu, fun T o i v H d e f G R Q hr ro ri rv q k => by
  unfold dSetD at q
  split at q
  · cases ro
    split at q
    · rename_i a kvs ea
      obtain ⟨kk, ek, hl, q⟩ := q
      obtain ⟨ys, h1, h2⟩ := hr _ _ ea
      have u : ∀ o, Up H (upd H _ o) := fun o => Up.put h1 trivial
      exact ⟨_, _, rfl, .inl ⟨ys, kk, h1, ky_v ri ek, by rw [h2.len]; exact hl, rfl⟩, k _ _ (u _) (hr.put (c := .dK _) h1 trivial ⟨_, upd_same, KVr.putD (rv.up (u _)) (h2.up (u _))⟩) q⟩
    · rename_i a kvs ea
      split at q
      · cases ri with
        | key eb =>
          obtain ⟨hl, q⟩ := q
          obtain ⟨ys, h1, h2⟩ := hr _ _ ea
          have u : ∀ o, Up H (upd H _ o) := fun o => Up.put h1 trivial
          exact ⟨_, _, rfl, .inr ⟨ys, _, _, h1, rfl, eb, by rw [h2.len]; exact hl, rfl⟩, k _ _ (u _) (hr.put (c := .dT _) h1 trivial ⟨_, upd_same, KVr.putD (rv.up (u _)) (h2.up (u _))⟩) q⟩
      · exact False.elim q
    · exact False.elim q
  · exact False.elim q⟩
/-- o.f as a target -/
def gF (Cl : Addr) (f : Str) (da : DE) : DG := fun v δ G R EX => da δ G (fun o G1 => match o with
  | .ref a => (match G1 a with
    | some (.ins c fs) => c = Cl ∧ fs.length < 1000 ∧ R δ (updD G1 a (.ins c (putFD f v fs)))
    | _ => False)
  | _ => False) EX
def gFldV (K : PySem.W.Frag) (to : TE) (f : Str) : TG := fun v σ H Q => to σ H fun x H1 => ∃ a C dx fs, x = .ref a ∧ H1 a = some (.ins C dx fs) ∧ Cls K C ∧ NoAttr K C f ∧ fs.length < 1000 ∧ Q σ (upd H1 a (.ins C dx (L2.putF f v fs)))
theorem pg_fld {to : TE} {n : Str} (ho : PE X o to) : PG X (.Attribute o n pos) (gFldV X.K to n) := by
  refine ⟨fun pins s σ H v u Q I r h => ?_⟩
  rw [assign_Attribute]
  refine wpAny_bind (wpAny_holding (thn (ho.run pins s σ H _ I h) fun ov s1 ⟨x, H1, I1, r1, a, C, dx, fs, ex, ea, c, na, l, q⟩ => ?_))
  subst ex
  obtain rfl : ov = Value.ref a := r1
  refine wpAny_bind (wpAny_standAt (wpAny_bind (wpAny_holding (setattr_ok I1 ea c na l r fun s3 I3 => ?_))))
  exact wpAny_release ⟨σ, _, I3, q⟩
theorem pdg_fld {Cl : Addr} {n : Str} (cl : Cls X.K Cl) (na : NoAttr X.K Cl n) (ha : PD X E o da) : PDG X E (.Attribute o n pos) (gF Cl n da) :=
  ⟨imG (pg_fld ha.pe) fun v σ H Q ⟨d, δ, G, R, EX, dv, sr, hr, h, cr, cx⟩ => ⟨δ, G, _, EX, sr, hr, h, fun x H1 y G1 u1 h1 r1 q1 => by
    dsimp only at q1
    split at q1
    · cases r1
      split at q1
      · rename_i a c fs ea
        obtain ⟨hc, hl, q1⟩ := q1
        subst hc
        obtain ⟨dx, ys, e1, e2⟩ := h1 _ _ ea
        have u : ∀ o, Up H1 (upd H1 _ o) := fun o => Up.put e1 trivial
        exact ⟨_, _, dx, ys, rfl, e1, cl, na, by rw [e2.len]; exact hl, cr _ _ _ _ (u1.trans (u _)) (sr.up (u1.trans (u _))) (h1.put (c := .ins _ (putFD n d fs)) e1 trivial ⟨dx, _, upd_same, KVr.putF (dv.up (u1.trans (u _))) (e2.up (u _))⟩) q1⟩
      · exact False.elim q1
    · exact False.elim q1, cx⟩⟩
end
end Cc
/-! ### plain tuples; dict(pairs), sorted(dict), len(set(tuple)) -/
namespace Cc
open PySem PySem.Spec PyProof.Rows L2
section
variable {X : Cx} {E : EK} {e : Expr} {es : List Expr} {pos : Pos} {da db dc : DE} {dl : DA}
/-! tuples that are known to have no dict -/
def PT (H : Hp) (a : Addr) (xs : List V) : Prop := ∃ o : Obj, H a = some (.frz o (.tup xs)) ∧ o.dict = none
def tTupP (t : TA) : TE := fun σ H Q => t σ H fun xs H1 => xs.length ≤ sizeLine ∧ ∀ p o, H1 p = none → o.dict = none → Q (.ref p) (upd H1 p (.frz o (.tup xs)))
theorem pe_tupP {x1} {t : TA} (h : PA X es t) : PE X (.Tuple es x1 pos) (tTupP t) := by
  refine ⟨fun pins s σ H Q I hq => ?_⟩
  refine wpAny_Tuple_spliced (thn (h.run pos pins s σ H _ I hq) fun us s1 ⟨xs, H1, I1, r, z, q⟩ => ⟨by rw [← r.length]; exact z, ?_⟩)
  have hf : H1 s1.heap.objs.size = none := I1.hok.fresh (Nat.le_refl _)
  refine ⟨.ref s1.heap.objs.size, upd H1 s1.heap.objs.size (.frz { cls := .type "tuple", data := .seq us.toArray } (.tup xs)), I1.laid (t' := s1.toks) (fun b u e => Heap.get?_push_of_some _ e) (Nat.le_refl _) ?_, rfl, q _ _ hf rfl⟩
  exact ⟨Heap.get?_push_size _ rfl, z, us, r, ⟨_, Heap.get?_push_size _ rfl, rfl, _, rfl⟩⟩
def dTupP (dl : DA) : DE := fun δ G R EX => dl δ G (fun xs G1 => xs.length ≤ sizeLine ∧ R (.ptp xs) G1) EX
theorem pd_tupP {x1} (h : PDA X E es dl) : PD X E (.Tuple es x1 pos) (dTupP dl) :=
  ⟨imE (pe_tupP h.pa) fun σ H Q ⟨δ, G, R, EX, sr, hr, h, cr, cx⟩ => ⟨δ, G, _, EX, sr, hr, h, fun xs H1 l G1 u1 h1 r1 ⟨z, q1⟩ => ⟨by rw [r1.length]; exact z, fun p o hp hd =>
    cr _ _ _ _ (u1.trans (Up.new hp)) (h1.new0 hp) (.ptp ⟨o, upd_same, hd⟩ (r1.up (Up.new hp))) q1⟩, cx⟩⟩
theorem call_tupP : CallR X (.type "tuple") (fun xs H Q => ∃ p ys, xs = [.ref p] ∧ SqL X.K H p ys ∧ ∀ l o, H l = none → o.dict = none → Q (.ref l) (upd H l (.frz o (.tup ys)))) := by
  intro pins s σ H xs us Q I r h
  obtain ⟨p, ys, rfl, hq, q⟩ := h
  obtain ⟨u, rfl, rx⟩ := vals1 r
  cases rx
  obtain ⟨its, r', pl, hz⟩ := I.list hq
  have hlen := r'.length
  refine call_tuple_list pl.isList (fun h' kp => ?_) (by simp only [List.size_toArray] <;> omega)
  have I1 : Inv X pins σ H { s with heap := h' } := I.kept (t' := s.toks) kp
  have I2 : Inv X pins σ (upd H h'.objs.size (.frz { cls := .type "tuple", data := .seq its.toArray } (.tup ys))) { s with heap := h'.push { cls := .type "tuple", data := .seq its.toArray } } :=
    I1.laid (t' := s.toks) (fun b o e => Heap.get?_push_of_some _ e) (Nat.le_refl _) (show ObjOk X.prog X.w _ _ _ (.frz _ (.tup ys)) from ⟨Heap.get?_push_size _ rfl, hz, its, r', IsTup.new _ _⟩)
  exact ⟨.ref h'.objs.size, _, I2, rfl, q _ _ (I1.hok.fresh (Nat.le_refl _)) rfl⟩
/-- tuple(a list), known to be plain -/
def dTupCP : DC := fun xs G R => match xs with
  | [x] => (match x with
    | .rol l => R (.ptp l) G
    | .ref a => (match G a with
      | some (.lst l) => R (.ptp l) G
      | _ => False)
    | _ => False)
  | _ => False
theorem cd_tupP : CD X (.type "tuple") dTupCP := ⟨_, call_tupP, fun T x H d G R Q hr r q cr => by
  unfold dTupCP at q
  split at q
  · cases r with
    | cons r1 r2 =>
      cases r2
      split at q
      · cases r1 with
        | rol hq r1 => exact ⟨_, _, rfl, hq.sqL, fun n o hn hd => cr _ _ _ _ (Up.new hn) (hr.new0 hn) (.ptp ⟨o, upd_same, hd⟩ (r1.up (Up.new hn))) q⟩
      · cases r1
        split at q
        · rename_i l ea
          obtain ⟨xs, e1, r1⟩ := hr _ _ ea
          exact ⟨_, xs, rfl, SqL.of e1, fun n o hn hd => cr _ _ _ _ (Up.new hn) (hr.new0 hn) (.ptp ⟨o, upd_same, hd⟩ (r1.up (Up.new hn))) q⟩
        · exact False.elim q
      · exact False.elim q
  · exact False.elim q⟩
/-! dict(pairs) -/
theorem call_dictPT (hcalm : X.calm = true) : CallR X (.type "dict") (fun xs H Q => ∃ (a : Addr) (ps : List Addr) (kvs : List (Key × V)), xs = [.ref a] ∧ PT H a (ps.map V.ref) ∧ Paired (fun p kv => SqT X.K H p [kV kv.1, kv.2]) ps kvs ∧
    ∀ p, H p = none → Q (.ref p) (upd H p (.dK (mergeK [] kvs)))) := by
  intro pins s σ H xs us Q I r q
  obtain ⟨a, ps, kvs, ex, ⟨o, ho, hd⟩, hp, q⟩ := q
  subst ex
  obtain ⟨u, eu, rx⟩ := vals1 r
  subst eu
  cases rx
  obtain ⟨ha, hz, its, rv, ⟨o2, ho2, hc, n, hdat⟩⟩ := I.hok _ _ ho
  rw [ha] at ho2
  cases ho2
  have ei := refs_at rv
  subst ei
  rw [List.length_map] at hz
  obtain ⟨prs, rel, hl, hpr⟩ := pairs_of I hp
  -- the pairs as values
  have vk : ∀ j, ∀ q' : Key × Value, prs[j]? = some q' → ∃ (b : Addr) (u : Value), ps[j]? = some b ∧ IsTup s.heap b #[u, q'.2] ∧ keyIs q'.1 u = true := hpr
  have vps : ∃ vps : List (Value × Value), vps.length = ps.length ∧ (∀ (j : Nat) (k v : Value), vps[j]? = some (k, v) → ∃ b, ps[j]? = some b ∧ IsTup s.heap b #[k, v]) ∧ ∀ (j : Nat) (k v : Value), vps[j]? = some (k, v) → ∃ k', prs[j]? = some (k', v) ∧ keyIs k' k = true := by
    clear rel q hz rv hdat ha ho hp
    induction prs generalizing ps with
    | nil =>
      refine ⟨[], by simpa using hl, fun j k v e => by simp at e, fun j k v e => by simp at e⟩
    | cons p prs ih =>
      cases ps with
      | nil => simp at hl
      | cons b ps =>
        obtain ⟨b', u, e1, e2, e3⟩ := vk 0 p rfl
        cases e1
        obtain ⟨vps, h1, h2, h3⟩ := ih (ps := ps) (by simpa using hl) (fun j q' e => vk (j + 1) q' (by simpa using e)) (fun j q' e => vk (j + 1) q' (by simpa using e))
        refine ⟨(u, p.2) :: vps, by simp [h1], fun j k v e => ?_, fun j k v e => ?_⟩
        · cases j with
          | zero => cases e; exact ⟨_, rfl, e2⟩
          | succ j => exact h2 j k v (by simpa using e)
        · cases j with
          | zero => cases e; exact ⟨_, rfl, e3⟩
          | succ j => exact h3 j k v (by simpa using e)
  obtain ⟨vps, v1, v2, v3⟩ := vps
  let Ts : Nat → Addr := fun j => ps.getD j 0
  have P := PairArg.tuple (prog := X.prog) (w := X.w) a (ps.map Value.ref).toArray Ts vps
  have ok : PlainSeq "tuple" s.heap a (ps.map Value.ref).toArray ∧ PairItems s.heap (ps.map Value.ref).toArray Ts vps := by
    refine ⟨⟨o, n, ha, hc, hd, hdat⟩, by simp [v1], fun j k v e => ?_⟩
    obtain ⟨b, e1, e2⟩ := v2 j k v e
    have e3 : Ts j = b := by
      show ps.getD j 0 = b
      rw [List.getD_eq_getElem?_getD, e1]
      rfl
    rw [e3]
    exact ⟨by simp [e1], .inl e2⟩
  have hpl : prs.length = vps.length := hl.trans v1.symm
  refine PySem.call_dict_pairs (knd := mixKind X.prog X.w) (kvs := prs) P (I.ok.hd hcalm) ok ⟨hpl, fun i key v rel => ?_⟩ (by rw [v1]; exact hz) fun h' tk hd' k => ?_
  · exact v3 i key v rel
  · have hm : (s.heap.objs.size == sysModules) = false := beq_eq_false_iff_ne.mpr (Nat.ne_of_gt I.big)
    have hlen : (mergeK [] kvs).length ≤ sizeLine := by
      refine Nat.le_trans (length_mergeK kvs []) ?_
      rw [List.length_nil, Nat.zero_add, rel.length, hl]
      exact hz
    exact ⟨.ref s.heap.objs.size, upd H s.heap.objs.size (.dK (mergeK [] kvs)), I.laid (t' := tk) (fun b o e => k b o (by simp) e) (Nat.le_refl _) (show ObjOk X.prog X.w _ _ _ (.dK (mergeK [] kvs)) from ⟨hlen, hm, merged [] prs, KV.merge rel .nil, hd'⟩), rfl, q _ (I.hok.fresh (Nat.le_refl _))⟩
/-- a list's or plain tuple's pairs -/
def keyed (d : D) : Option (Key × D) := match d.tl with
  | some [k, v] => k.ky.map fun k => (k, v)
  | _ => none
def pairsOf (G : DH) (x : D) : Option (List D) := match x with
  | .ref a => (match G a with
    | some (.lst l) => some l
    | _ => none)
  | .rol l => some l
  | .ptp l => some l
  | _ => none
def mergeD (kvs more : List (Key × D)) : List (Key × D) := more.foldl (fun acc kv => putD acc kv.1 kv.2) kvs
theorem KVr.merge {K : KT} {H : Hp} : ∀ {more : List (Key × V)} {moreD : List (Key × D)} {kvs : List (Key × V)} {kvsD : List (Key × D)}, KVr K H more moreD → KVr K H kvs kvsD → KVr K H (mergeK kvs more) (mergeD kvsD moreD)
  | _, _, _, _, .nil, r => r
  | p :: more, q :: moreD, _, _, .cons h t, r => by
    unfold mergeK mergeD
    rw [List.foldl_cons, List.foldl_cons]
    obtain ⟨e, h⟩ := h
    have e : p.1 = q.1 := e
    rw [e]
    exact KVr.merge t (KVr.putD h r)
theorem keyed_v {K : KT} {H : Hp} : ∀ {xs : List V} {l : List D} {kvs : List (Key × D)}, DvL K H xs l → l.map keyed = kvs.map some → ∃ (ps : List Addr) (ys : List (Key × V)), xs = ps.map V.ref ∧ Paired (fun p kv => SqT K.1 H p [kV kv.1, kv.2]) ps ys ∧ KVr K H ys kvs
  | _, _, [], .nil, _ => ⟨[], [], rfl, .nil, .nil⟩
  | _, _, _ :: _, .nil, e => by simp at e
  | _, _, [], .cons _ _, e => by simp at e
  | _, _, (k, d) :: kvs, .cons (d := x) h t, e => by
    rw [List.map_cons, List.map_cons, List.cons.injEq] at e
    obtain ⟨e1, e2⟩ := e
    obtain ⟨ps, ys, e3, e4, e5⟩ := keyed_v t e2
    unfold keyed at e1
    split at e1
    · rename_i k' v' et
      obtain ⟨k2, e6, e7⟩ := Option.map_eq_some_iff.mp e1
      cases e7
      obtain ⟨a, zs, e8, e9, e10⟩ := h.sqT et
      cases e10 with
      | cons r1 r2 =>
        cases r2 with
        | cons r2 r3 =>
          cases r3
          rw [ky_v r1 e6] at e9
          exact ⟨a :: ps, (k, _) :: ys, by rw [e8, e3]; rfl, .cons e9 e4, .cons ⟨rfl, r2⟩ e5⟩
    · cases e1
def dDictP : DC := fun xs G R => match xs with
  | [x] => ∃ l kvs, pairsOf G x = some l ∧ l.map keyed = kvs.map some ∧ ∀ p, G p = none → R (.ref p) (updD G p (.dK (mergeD [] kvs)))
  | _ => False
def rDictP (K : PySem.W.Frag) : List V → Hp → VK → Prop := fun xs H Q => ∃ (a : Addr) (ps : List Addr) (kvs : List (Key × V)), xs = [.ref a] ∧ (SqL K H a (ps.map V.ref) ∨ PT H a (ps.map V.ref)) ∧ Paired (fun p kv => SqT K H p [kV kv.1, kv.2]) ps kvs ∧ ∀ p, H p = none → Q (.ref p) (upd H p (.dK (mergeK [] kvs)))
theorem call_dictA (hcalm : X.calm = true) : CallR X (.type "dict") (rDictP X.K) := fun pins s σ H xs us Q I r ⟨a, ps, kvs, e, h, hp, q⟩ => by
  rcases h with h | h
  · exact call_dictP hcalm pins s σ H xs us Q I r ⟨a, ps, kvs, e, h, hp, q⟩
  · exact call_dictPT hcalm pins s σ H xs us Q I r ⟨a, ps, kvs, e, h, hp, q⟩
theorem cd_dict (hc : X.calm = true) : CD X (.type "dict") dDictP := ⟨_, call_dictA hc, fun T x H d G R Q hr r q cr => by
  unfold dDictP at q
  split at q
  · cases r with
    | cons r1 r2 =>
      cases r2
      obtain ⟨l, kvs, e1, e2, q⟩ := q
      have fin : ∀ (ps : List Addr) (ys : List (Key × V)), KVr (X.K, T) H ys kvs → ∀ p, H p = none → Q (.ref p) (upd H p (.dK (mergeK [] ys))) := fun ps ys rk p hp =>
        cr _ _ _ _ (Up.new hp) (hr.new (c := .dK (mergeD [] kvs)) hp ⟨_, upd_same, (KVr.merge rk .nil).up (Up.new hp)⟩) (.ref p) (q p (hr.none hp))
      unfold pairsOf at e1
      split at e1
      · cases r1
        split at e1
        · rename_i a l' ea
          cases e1
          obtain ⟨xs, h1, h2⟩ := hr _ _ ea
          obtain ⟨ps, ys, e3, e4, e5⟩ := keyed_v h2 e2
          subst e3
          exact ⟨_, ps, ys, rfl, .inl (SqL.of h1), e4, fin ps ys e5⟩
        · cases e1
      · cases e1
        cases r1 with
        | rol hq h2 =>
          obtain ⟨ps, ys, e3, e4, e5⟩ := keyed_v h2 e2
          subst e3
          exact ⟨_, ps, ys, rfl, .inl hq.sqL, e4, fin ps ys e5⟩
      · cases e1
        cases r1 with
        | ptp hq h2 =>
          obtain ⟨ps, ys, e3, e4, e5⟩ := keyed_v h2 e2
          subst e3
          exact ⟨_, ps, ys, rfl, .inr hq, e4, fin ps ys e5⟩
      · cases e1
  · exact False.elim q⟩
/-- dict(pairs), read and forgotten -/
def dDictF : DC := fun xs G R => match xs with
  | [x] => ∃ l kvs, pairsOf G x = some l ∧ l.map keyed = kvs.map some ∧ R (.rod (mergeD [] kvs)) G
  | _ => False
theorem cd_dictF (hc : X.calm = true) : CD X (.type "dict") dDictF := cd_frz (cd_dict hc) fun ds G R q => by
  unfold dDictF at q
  split at q
  · obtain ⟨l, kvs, a, b, q⟩ := q
    exact ⟨l, kvs, a, b, fzv_newK q⟩
  · exact q.elim
/-! sorted(a dict of ints) -/
def sortI (ks : List Int) : List Int := ks.mergeSort fun a b => decide (a ≤ b)
theorem sortI_of {ys ks : List Int} (h : ys.Perm ks) (s : ys.Pairwise (· ≤ ·)) : ys = sortI ks := by
  have p : (sortI ks).Pairwise (· ≤ ·) := by
    have := List.pairwise_mergeSort (le := fun a b : Int => decide (a ≤ b)) (fun a b c h1 h2 => by simp only [decide_eq_true_eq] at *; omega) (fun a b => by simp only [Bool.or_eq_true, decide_eq_true_eq]; omega) ks
    exact this.imp fun h => by simpa using h
  exact List.Perm.eq_of_pairwise (le := fun a b : Int => a ≤ b) (fun a b _ _ h1 h2 => by omega) s p (h.trans (List.mergeSort_perm _ _).symm)
def dictOf (G : DH) (x : D) : Option (List (Key × D)) := match x with
  | .ref a => (match G a with
    | some (.dK kvs) => some kvs
    | _ => none)
  | .rod kvs => some kvs
  | _ => none
theorem dictOf_v {K : KT} {G : DH} {H : Hp} {v : V} {x : D} {kvs : List (Key × D)} (hr : HRel K G H) (r : Dv K H v x) (e : dictOf G x = some kvs) : ∃ a ys, v = .ref a ∧ Rd H a (.dK ys) ∧ KVr K H ys kvs := by
  unfold dictOf at e
  split at e
  · cases r
    split at e
    · rename_i a l ea
      cases e
      obtain ⟨ys, h1, h2⟩ := hr _ _ ea
      exact ⟨_, ys, rfl, .inl h1, h2⟩
    · cases e
  · cases e
    cases r with
    | rod hq h2 =>
      obtain ⟨o, hq⟩ := hq
      exact ⟨_, _, rfl, .inr ⟨o, hq⟩, h2.kvr⟩
  · cases e
theorem KVr.keys {K : KT} {H : Hp} {κ : Type} {xs : List (κ × V)} {ys : List (κ × D)} (r : KVr K H xs ys) : xs.map (·.1) = ys.map (·.1) := by
  induction r with
  | nil => rfl
  | @cons p q l m h t ih => rw [List.map_cons, List.map_cons, ih, h.1]
def dSortDI0 : DC := fun xs G R => match xs with
  | [x] => ∃ kvs ks, dictOf G x = some kvs ∧ kvs.map (·.1) = ks.map Sum.inl ∧ ks.length < 64 ∧ ∀ p, G p = none → R (.ref p) (updD G p (.lst ((sortI ks).map .int)))
  | _ => False
def dSortDI : DC := fun xs G R => match xs with
  | [x] => ∃ kvs ks, dictOf G x = some kvs ∧ kvs.map (·.1) = ks.map Sum.inl ∧ ks.length < 64 ∧ R (.rol ((sortI ks).map .int)) G
  | _ => False
theorem dvL_ints {K : KT} {H : Hp} : ∀ ns : List Int, DvL K H (ns.map V.int) (ns.map D.int)
  | [] => .nil
  | n :: ns => .cons (.int n) (dvL_ints ns)
theorem cd_sortDI0 (hc : X.calm = true) : CD X (.builtin "sorted") dSortDI0 := ⟨_, call_sortedDI hc, fun T x H d G R Q hr r q cr => by
  unfold dSortDI0 at q
  split at q
  · cases r with
    | cons r1 r2 =>
      cases r2
      obtain ⟨kvs, ks, e1, e2, h64, q⟩ := q
      obtain ⟨a, ys, e3, e4, e5⟩ := dictOf_v hr r1 e1
      subst e3
      refine ⟨a, ys, ks, rfl, e4, e5.keys.trans e2, h64, fun zs p hz hs hp => ?_⟩
      rw [sortI_of hz hs]
      exact cr _ _ _ _ (Up.new hp) (hr.new (c := .lst ((sortI ks).map .int)) hp ⟨_, upd_same, dvL_ints _⟩) (.ref p) (q p (hr.none hp))
  · exact False.elim q⟩
theorem cd_sortDI (hc : X.calm = true) : CD X (.builtin "sorted") dSortDI := cd_frz (cd_sortDI0 hc) fun ds G R q => by
  unfold dSortDI at q
  split at q
  · obtain ⟨l, kvs, a, b, c, q⟩ := q
    exact ⟨l, kvs, a, b, c, fzv_new q⟩
  · exact q.elim
/-! len(set(a tuple of ints)) -/
def Distinct (ns : List Int) (c : Nat) : Prop := ∃ keys : List Int, keys.Nodup ∧ (∀ k, k ∈ keys ↔ k ∈ ns) ∧ c = keys.length
theorem Distinct.of_nodup {ns : List Int} {c : Nat} (h : Distinct ns c) (hn : ns.Nodup) : c = ns.length := by
  obtain ⟨keys, h1, h2, h3⟩ := h
  rw [h3]
  exact ((List.perm_ext_iff_of_nodup h1 hn).mpr h2).length_eq
def tLenSetT (K : PySem.W.Frag) (ta : TE) : TE := fun σ H Q => ta σ H fun x H1 => ∃ (l : Addr) (ns : List Int), x = .ref l ∧ SqT K H1 l (ns.map V.int) ∧ ns.length ≤ 4000 ∧ ∀ c, Distinct ns c → Q (.int (c : Nat)) H1
theorem pe_lenSetT {a : Expr} {ta : TE} {p p2 q pos : Pos} (hg : Gl X "len") (hm : X.mg "len" = none) (hg2 : Gl X "set") (hm2 : X.mg "set" = none) (ha : PE X a ta) (hc : X.calm = true := by rfl)
    (na : starEach [a] X.env = (false, eval a X.env) :: starEach [] X.env := by rfl) : PE X (.Call (.Name "len" p) [.Call (.Name "set" p2) [a] [] q] [] pos) (tLenSetT X.K ta) := by
  refine ⟨fun pins s σ H Q I h => ?_⟩
  refine Call_ (ld_blt I hg hm boot_len ?_)
  refine PyProof.Rows.callWith_builtin1 (PyProof.Rows.args_cons ?_ rfl) rfl rfl
  refine Call_ (ld_blt I hg2 hm2 boot_set ?_)
  refine PyProof.Rows.callWith_type1 (PyProof.Rows.args_cons (thn (ha.run pins s σ H _ I h) fun v s1 ⟨x, H1, I1, r1, q1⟩ => PyProof.Rows.args_nil ?_) na) na rfl
  obtain ⟨l, ns, rfl, hq, hl, q1⟩ := q1
  cases r1
  obtain ⟨its, r, pl, hz⟩ := I1.tuple hq
  refine call_set_tupI (items := its.toArray) ns (I1.ok.hd hc) pl (by simpa using RZ.intsAre_vals r) (by unfold scanBound; omega) fun h' tk c hS hcn hk => ?_
  refine PyProof.Rows.args_nil ?_
  obtain ⟨o, es, ep, t, ho, hex, hd, hG, hnd, hmem, hsz, hf, hn, _⟩ := hS
  have I2 : Inv X pins σ H1 { s1 with heap := h', toks := tk } := I1.kept hk
  refine call_len_set ho hex hd hf (by rw [hn] <;> omega) ⟨.int c, H1, I2.tok _, ⟨_, by rw [hn]⟩, q1 c ⟨es.toList.map keyOf, hnd, fun k => ?_, by simp [hn]⟩⟩
  rw [← hmem k, decide_eq_true_iff]
def dLenSet (da : DE) : DE := fun δ G R EX => da δ G (fun x G1 => ∃ ns : List Int, x.tl = some (ns.map .int) ∧ ns.length ≤ 4000 ∧ ∀ c, Distinct ns c → R (.int (c : Nat)) G1) EX
theorem vals_ints {K : KT} {H : Hp} : ∀ {xs : List V} {ns : List Int}, DvL K H xs (ns.map D.int) → xs = ns.map V.int
  | _, [], h => by cases h; rfl
  | _, n :: ns, h => by
    cases h with
    | cons h t =>
      cases h
      rw [List.map_cons, ← vals_ints t]
theorem pd_lenSet {a : Expr} {p p2 q pos : Pos} (hm : X.mg "len" = none) (hm2 : X.mg "set" = none) (ha : PD X E a da) (hc : X.calm = true := by rfl) (hg : Gl X "len" := by rfl) (hg2 : Gl X "set" := by rfl)
    (na : starEach [a] X.env = (false, eval a X.env) :: starEach [] X.env := by rfl) : PD X E (.Call (.Name "len" p) [.Call (.Name "set" p2) [a] [] q] [] pos) (dLenSet da) :=
  ⟨imE (pe_lenSetT hg hm hg2 hm2 ha.pe hc na) fun σ H Q ⟨δ, G, R, EX, sr, hr, h, cr, cx⟩ => ⟨δ, G, _, EX, sr, hr, h, fun v H1 x G1 u1 h1 r1 ⟨ns, e1, e2, q⟩ => by
    obtain ⟨l, xs, e3, e4, e5⟩ := r1.sqT e1
    rw [vals_ints e5] at e4
    exact ⟨l, ns, e3, e4, e2, fun c hc => cr _ _ _ _ u1 h1 (.int _) (q c hc)⟩, cx⟩⟩
end
end Cc
/-! ### sorted(a dict with tuple keys) -/
namespace Cc
open PySem PySem.Spec PyProof.Rows L2
open PySem.W (EachIs AllAlike Sortable dataLe each_map dataKind sortVals_data SortsAt list_sort_vals sortingHeap_old sortVals)
def kP : Key → PyData
  | .inl i => .int i
  | .inr s => .str s
def encK (ks : List Key) : PyData := .tuple (ks.map kP)
def sortK (ks : List (List Key)) : List (List Key) := ks.mergeSort (dataLe false encK)
section
variable {X : Cx}
theorem dp_key {K : PySem.W.Frag} {H : Hp} : ∀ ks : List Key, DpAll K H (ks.map kV) (ks.map kP)
  | [] => .nil
  | .inl i :: ks => .cons (.int i) (dp_key ks)
  | .inr s :: ks => .cons (.str s) (dp_key ks)
theorem dep_key (ks : List Key) : (encK ks).depth ≤ 1 := by
  have : PyData.depthAll (ks.map kP) = 0 := by
    induction ks with
    | nil => rfl
    | cons k ks ih => cases k <;> simp [kP, PyData.depthAll, PyData.depth, ih]
  unfold encK
  rw [PyData.depth, this]
  omega
theorem each_self : ∀ ks : List (List Key × Addr × Value), EachIs (fun (v : Value) (x : List Key × Addr × Value) => v = .ref x.2.1) (ks.map fun x => Value.ref x.2.1) ks
  | [] => .nil
  | _ :: ks => .cons rfl (each_self ks)
theorem paired_of {H : Hp} : ∀ {kvs : List (List Key × V)} {ks : List (List Key × Addr × Value)}, Paired (fun (p : List Key × V) (q : List Key × Addr × Value) => p.1 = q.1 ∧ H q.2.1 = some (.tup (p.1.map kV)) ∧ RelV p.2 q.2.2) kvs ks → (∀ x ∈ ks, H x.2.1 = some (.tup (x.1.map kV))) ∧ kvs.map (·.1) = ks.map (·.1)
  | [], _, .nil => ⟨(fun _ h => by cases h), rfl⟩
  | p :: kvs, x :: ks, .cons h t => by
    obtain ⟨h1, h2⟩ := paired_of t
    refine ⟨fun y hy => ?_, by rw [List.map_cons, List.map_cons, h2, h.1]⟩
    rcases List.mem_cons.mp hy with rfl | hy
    · rw [← h.1]; exact h.2.1
    · exact h1 y hy
theorem out_vals : ∀ {out : List Value} {ks : List (List Key × Addr × Value)}, EachIs (fun (v : Value) (x : List Key × Addr × Value) => v = .ref x.2.1) out ks → Vals ((ks.map fun x => x.2.1).map V.ref) out
  | _, _, .nil => .nil
  | _, _, .cons h t => by
    rw [List.map_cons, List.map_cons]
    exact .cons (by rw [h]; rfl) (out_vals t)
theorem keys_at {H : Hp} : ∀ {ks : List (List Key × Addr × Value)}, (∀ x ∈ ks, H x.2.1 = some (.tup (x.1.map kV))) → Paired (fun k b => H b = some (.tup (k.map kV))) (ks.map (·.1)) (ks.map fun x => x.2.1)
  | [], _ => .nil
  | x :: ks, h => .cons (h x List.mem_cons_self) (keys_at fun y hy => h y (List.mem_cons_of_mem _ hy))
theorem call_sortDT (hc : X.calm = true) (hu : X.A.units + 42 < cLine) : CallR X (.builtin "sorted") (fun xs H Q => ∃ d kvs, xs = [V.ref d] ∧ Rd H d (.dT kvs) ∧ AllAlike (kvs.map fun p => encK p.1) ∧ Sortable (kvs.map fun p => encK p.1) ∧
    ∀ p bs, H p = none → Paired (fun k b => H b = some (.tup (k.map kV))) (sortK (kvs.map (·.1))) bs → Q (.ref p) (upd H p (.lst (bs.map V.ref)))) := by
  intro pins s σ H xs us Q I r h
  obtain ⟨d, kvs, rfl, hd, hal, hso, q⟩ := h
  obtain ⟨u, rfl, rx⟩ := r.one
  cases rx
  obtain ⟨z, hs, ks, pr, o, es, ep, ho, hx, hdt, he, hn⟩ := (show ObjOk X.prog X.w H s.heap d (.dT kvs) from hd.ok I.hok)
  have l1 : es.size = ks.length := size_of_entries he
  have l2 : kvs.length = ks.length := Paired.length pr
  refine Calls.call_function_entry PyProof.Rows.kind_sorted PyProof.Rows.plain_sorted PyProof.Rows.entry_sorted (PyProof.Rows.args_sorted1 _) ?_
  unfold Builtin.«sorted»
  refine wpAny_bind (m := checkCount "sorted" 1 1 _) (wpAny_pure ?_)
  refine wpAny_bind (PySem.W.kdu_collect (A := X.A.in1) (kdl_raw hs hx hdt) (I.ok.hd hc) ho (by omega) fun h' tk acc hk it => ?_)
  have ea : acc.toList = ks.map fun x => Value.ref x.2.1 := by
    have hl : acc.toList.length = ks.length := by rw [Array.length_toList, it.1]; exact l1
    apply List.ext_getElem?
    intro j
    rw [List.getElem?_map]
    cases hj : acc.toList[j]? with
    | none =>
      have h1 := List.getElem?_eq_none_iff.mp hj
      rw [List.getElem?_eq_none (by omega)]
      all_goals rfl
    | some v =>
      obtain ⟨en, hen, hv⟩ := it.2 j v (by rw [← Array.getElem?_toList]; exact hj)
      have qe := entry_at he j
      rw [hen] at qe
      cases hb : ks[j]? with
      | none =>
        rw [hb] at qe
        exact nomatch (show some en = none from qe)
      | some b =>
        rw [hb] at qe
        have e2 : en = entryOfKey (tupleKind (mixKind X.prog X.w)) b := Option.some.inj qe
        rw [hv, e2]
        all_goals rfl
  have I1 : Inv X pins σ H { s with heap := h', toks := tk } := I.kept hk
  have hlen : acc.toList.length = ks.length := by rw [ea, List.length_map]
  refine wpAny_bind (wpAny_newList ?_ (by rw [hlen]; omega))
  have hoL : (h'.push (PyProof.Rows.seqObj "list" acc.toList.toArray 0)).get? h'.objs.size = some (PyProof.Rows.seqObj "list" acc.toList.toArray 0) := Heap.get?_push_size _ rfl
  show wpAny _ _ _ _ _ { s with heap := h'.push (PyProof.Rows.seqObj "list" acc.toList.toArray 0), toks := tk }
  have e : EachIs (fun (v : Value) (x : List Key × Addr × Value) => v = .ref x.2.1) acc.toList ks := by
    rw [ea]
    exact each_self ks
  have hmem : ∀ x ∈ ks, H x.2.1 = some (.tup (x.1.map kV)) := fun x hx => by
    exact (paired_of pr).1 x hx
  have er : EachIs (fun (v : Value) (x : List Key × Addr × Value) => ∃ as, Reads (PySem.W.sortingHeap (h'.push (PyProof.Rows.seqObj "list" acc.toList.toArray 0)) h'.objs.size acc.toList) v (encK x.1) as) acc.toList ks := by
    refine (PySem.W.each_mem e).mono fun v x ⟨ev, hx⟩ => ?_
    subst ev
    obtain ⟨as, rd⟩ := Dp.reads I1 (encK x.1) (.ref x.2.1) (.ref x.2.1) (.tup (SqT.of (hmem x hx)) (dp_key _)) rfl
    refine ⟨as, PyProof.Rows.Reads.keeps (fun b ob hb => ?_) rd⟩
    have hb2 : b < h'.objs.size := Heap.lt_size hb
    exact sortingHeap_old (Nat.ne_of_lt hb2) (Heap.get?_push_of_some _ hb)
  have ek : ks.map (fun x : List Key × Addr × Value => encK x.1) = kvs.map fun p => encK p.1 := by
    have : ks.map (fun x => x.1) = kvs.map fun p => p.1 := (paired_of pr).2.symm
    have h2 := congrArg (List.map encK) this
    rw [List.map_map, List.map_map] at h2
    exact h2
  have hal' : AllAlike (ks.map fun x : List Key × Addr × Value => encK x.1) := by rw [ek]; exact hal
  have hso' : Sortable (ks.map fun x : List Key × Addr × Value => encK x.1) := by rw [ek]; exact hso
  have S := SortsAt.data (prog := X.prog) (w := X.w) (A := X.A.in1.in1) (s := { s with heap := PySem.W.sortingHeap (h'.push (PyProof.Rows.seqObj "list" acc.toList.toArray 0)) h'.objs.size acc.toList, toks := tk })
    (each_map (R := fun v d => ∃ as, Reads (PySem.W.sortingHeap (h'.push (PyProof.Rows.seqObj "list" acc.toList.toArray 0)) h'.objs.size acc.toList) v d as) (fun x : List Key × Addr × Value => encK x.1) er) hal' hso' (fun t ht => by
      obtain ⟨x, _, rfl⟩ := List.mem_map.mp ht
      have := dep_key x.1
      show X.A.in1.in1.units + (encK x.1).depth < cLine
      have : X.A.in1.in1.units ≤ X.A.units + 2 := by simp
      omega)
  refine wpAny_bind (wpAny_holding (wpAny_call_entry PyProof.Rows.slot_list_sort ⟨_, hoL, rfl⟩ PyProof.Rows.entry_list_sort
    (list_sort_vals (s := { s with heap := h'.push (PyProof.Rows.seqObj "list" acc.toList.toArray 0), toks := tk }) hoL S (by rw [hlen]; omega) ⟨_, rfl, ?_⟩) (PyProof.Rows.args_list_sort _)))
  have eo := sortVals_data (enc := fun x : List Key × Addr × Value => encK x.1) false e er hal'
  obtain ⟨e', he'⟩ := PyProof.Rows.sortedHeap_at (vs := acc.toList) (out := (sortVals (dataKind (PySem.W.sortingHeap (h'.push (PyProof.Rows.seqObj "list" acc.toList.toArray 0)) h'.objs.size acc.toList) (ks.map fun x : List Key × Addr × Value => encK x.1)) false acc.toList acc.toList).toArray) hoL
  have hso2 : sortK (kvs.map (·.1)) = (ks.mergeSort (dataLe false fun x : List Key × Addr × Value => encK x.1)).map (·.1) := by
    unfold sortK
    rw [(paired_of pr).2]
    exact (List.map_mergeSort (f := fun x : List Key × Addr × Value => x.1) (fun _ _ _ _ => rfl)).symm
  have hz : (((ks.mergeSort (dataLe false fun x : List Key × Addr × Value => encK x.1)).map fun x => x.2.1).map V.ref).length ≤ sizeLine := by
    rw [List.length_map, List.length_map, List.length_mergeSort]
    omega
  refine wpAny_pure ⟨_, rfl, .ref h'.objs.size, upd H h'.objs.size (.lst (((ks.mergeSort (dataLe false fun x : List Key × Addr × Value => encK x.1)).map fun x => x.2.1).map V.ref)), I1.laid (t' := tk) (fun b u e => ?_) (Nat.le_refl _)
    (show ObjOk X.prog X.w _ _ _ (.lst _) from ⟨hz, _, e', out_vals eo, he'⟩), rfl, q _ _ (I1.hok.fresh (Nat.le_refl _)) ?_⟩
  · have hb : b < h'.objs.size := Heap.lt_size e
    rw [PyProof.Rows.sortedHeap_old (Nat.ne_of_lt hb) (by rw [PyProof.Rows.size_push']; exact Nat.lt_succ_of_lt hb)]
    exact Heap.get?_push_of_some _ e
  · rw [hso2]
    exact keys_at fun x hx => hmem x ((List.mergeSort_perm _ _).mem_iff.mp hx)
end
def dictTOf (G : DH) (x : D) : Option (List (List Key × D)) := match x with
  | .ref a => (match G a with
    | some (.dT kvs) => some kvs
    | _ => none)
  | _ => none
section
variable {X : Cx}
def dSortDT0 : DC := fun xs G R => match xs with
  | [x] => ∃ kvs, dictTOf G x = some kvs ∧ AllAlike (kvs.map fun p => encK p.1) ∧ Sortable (kvs.map fun p => encK p.1) ∧ ∀ p, G p = none → R (.ref p) (updD G p (.lst ((sortK (kvs.map (·.1))).map .key)))
  | _ => False
/-- sorted(d), its keys tuples -/
def dSortDT : DC := fun xs G R => match xs with
  | [x] => ∃ kvs, dictTOf G x = some kvs ∧ AllAlike (kvs.map fun p => encK p.1) ∧ Sortable (kvs.map fun p => encK p.1) ∧ R (.rol ((sortK (kvs.map (·.1))).map .key)) G
  | _ => False
theorem dvL_keys {K : KT} {H : Hp} : ∀ {ks : List (List Key)} {bs : List Addr}, Paired (fun k b => H b = some (.tup (k.map kV))) ks bs → DvL K H (bs.map V.ref) (ks.map .key)
  | _, _, .nil => .nil
  | _, _, .cons h t => .cons (.key h) (dvL_keys t)
theorem cd_sortDT0 (hc : X.calm = true) (hu : X.A.units + 64 < cLine) : CD X (.builtin "sorted") dSortDT0 := ⟨_, call_sortDT hc (by omega), fun T x H d G R Q hr r q cr => by
  unfold dSortDT0 at q
  split at q
  · cases r with
    | cons r1 r2 =>
      cases r2
      obtain ⟨kvs, e1, e2, e3, q⟩ := q
      unfold dictTOf at e1
      split at e1
      · cases r1
        split at e1
        · rename_i a l ea
          cases e1
          obtain ⟨ys, h1, h2⟩ := hr _ _ ea
          have ek : ys.map (fun p => encK p.1) = kvs.map fun p => encK p.1 := by
            have := congrArg (List.map encK) h2.keys
            rw [List.map_map, List.map_map] at this
            exact this
          refine ⟨_, ys, rfl, .inl h1, by rw [ek]; exact e2, by rw [ek]; exact e3, fun p bs hp hb => ?_⟩
          rw [h2.keys] at hb
          exact cr _ _ _ _ (Up.new hp) (hr.new (c := .lst _) hp ⟨_, upd_same, (dvL_keys hb).up (Up.new hp)⟩) (.ref p) (q p (hr.none hp))
        · cases e1
      · cases e1
  · exact False.elim q⟩
theorem cd_sortDT (hc : X.calm = true) (hu : X.A.units + 64 < cLine) : CD X (.builtin "sorted") dSortDT := cd_frz (cd_sortDT0 hc hu) fun ds G R q => by
  unfold dSortDT at q
  split at q
  · obtain ⟨l, a, b, c, q⟩ := q
    exact ⟨l, a, b, c, fzv_new q⟩
  · exact q.elim
end
end Cc
/-! ### tuples that are keys -/
namespace Cc
open PySem PySem.Spec PyProof.Rows L2
theorem keys_v {K : KT} {H : Hp} : ∀ {xs : List V} {l : List D} {ks : List Key}, DvL K H xs l → l.map D.ky = ks.map some → xs = ks.map kV
  | _, _, [], .nil, _ => rfl
  | _, _, _ :: _, .nil, e => by simp at e
  | _, _, [], .cons _ _, e => by simp at e
  | _, _, k :: ks, .cons h t, e => by
    rw [List.map_cons, List.map_cons, List.cons.injEq] at e
    rw [List.map_cons, ky_v h e.1, keys_v t e.2]
section
variable {X : Cx} {E : EK} {es : List Expr} {pos : Pos} {dl : DA}
def dKey (dl : DA) : DE := fun δ G R EX => dl δ G (fun xs G1 => ∃ ks, xs.map D.ky = ks.map some ∧ xs.length ≤ sizeLine ∧ R (.key ks) G1) EX
theorem pd_key {x1} (h : PDA X E es dl) : PD X E (.Tuple es x1 pos) (dKey dl) :=
  ⟨imE (pe_tup h.pa) fun σ H Q ⟨δ, G, R, EX, sr, hr, h, cr, cx⟩ => ⟨δ, G, _, EX, sr, hr, h, fun xs H1 l G1 u1 h1 r1 ⟨ks, ek, z, q1⟩ => ⟨by rw [r1.length]; exact z, fun p hp => by
    rw [keys_v r1 ek]
    exact cr _ _ _ _ (u1.trans (Up.new hp)) (h1.new0 hp) (.key upd_same) q1⟩, cx⟩⟩
end
end Cc
/-! ### dict displays; d.update(pairs) -/
namespace Cc
open PySem PySem.Spec PyProof.Rows L2
def dPs : List (Key × DE) → DS → DH → (List (Key × D) → DH → Prop) → DX → Prop
  | [], _, G, Q, _ => Q [] G
  | (k, de) :: r, δ, G, Q, EX => de δ G (fun d G1 => dPs r δ G1 (fun ps G2 => Q ((k, d) :: ps) G2) EX) EX
section
variable {X : Cx} {E : EK} {pos : Pos} {keys : List (Option Expr)} {values : List Expr}
def upPs (K : KT) (E : XK) (ps : List (Key × DE)) : L2.St → Hp → (List (V × V) → Hp → Prop) → Prop := fun σ H Q => ∃ δ G RR EX, SRel K H σ δ ∧ HRel K G H ∧ dPs ps δ G RR EX ∧
  (∀ (ys : List (Key × V)) H' kvs G', Up H H' → HRel K G' H' → KVr K H' ys kvs → RR kvs G' → Q (ys.map fun kv => (kV kv.1, kv.2)) H') ∧ CloX K H E EX
structure PDPs (X : Cx) (E : EK) (pos : Pos) (keys : List (Option Expr)) (values : List Expr) (ps : List (Key × DE)) : Prop where
  ex : ∃ trs, PPs X pos keys values trs ∧ ∀ σ H Q, upPs (kt X E) E.1 ps σ H Q → tPairs trs σ H Q
  len : keys.length = values.length
  some : keys.all (·.isSome) = true
theorem pdps_nil : PDPs X E pos [] [] [] := ⟨⟨[], pps_nil, fun σ H Q ⟨δ, G, RR, EX, sr, hr, h, cr, cx⟩ => cr [] H [] G (Up.refl H) hr .nil h⟩, rfl, rfl⟩
theorem pdps_cons {z : Str} {j : Nat} {p : Pos} {v : Expr} {ks : List (Option Expr)} {vs : List Expr} {de : DE} {ps : List (Key × DE)} (hv : PD X E v de) (hr : PDPs X E pos ks vs ps) :
    PDPs X E pos (some (.Constant (.str z) j p) :: ks) (v :: vs) ((Sum.inr z, de) :: ps) := by
  obtain ⟨⟨trs, h1, h2⟩, l1, l2⟩ := hr
  have hk : PD X E (.Constant (.str z) j p) (dC (.str z)) := pd_str
  refine ⟨⟨(up (kt X E) E.1 (dC (.str z)), up (kt X E) E.1 de) :: trs, pps_cons hk.pe hv.pe h1, fun σ H Q ⟨δ, G, RR, EX, sr, hr, h, cr, cx⟩ => ?_⟩, by rw [List.length_cons, List.length_cons, l1], by rw [List.all_cons, l2]; rfl⟩
  refine ⟨δ, G, fun d G1 => d = .str z ∧ G1 = G, EX, sr, hr, ⟨rfl, rfl⟩, fun v1 H1 d1 G1 u1 g1 r1 ⟨e1, e2⟩ => ?_, cx⟩
  subst e1 e2
  cases r1
  refine ⟨δ, G1, _, EX, sr.up u1, g1, h, fun v2 H2 d2 G2 u2 g2 r2 q2 => ?_, cx.up u1⟩
  refine h2 _ _ _ ⟨δ, G2, _, EX, sr.up (u1.trans u2), g2, q2, fun ys H3 kvs G3 u3 g3 r3 q3 => ?_, cx.up (u1.trans u2)⟩
  exact cr ((Sum.inr z, v2) :: ys) H3 ((Sum.inr z, d2) :: kvs) G3 (u1.trans (u2.trans u3)) g3 (.cons ⟨rfl, r2.up u3⟩ r3) q3
/-- {'..': e, ..} -/
def dDisp (ps : List (Key × DE)) : DE := fun δ G R EX => ∀ p, G p = none → dPs ps δ (updD G p (.dK [])) (fun kvs G2 => G2 p = some (.dK []) ∧ kvs.length ≤ 15 ∧ R (.ref p) (updD G2 p (.dK (mergeD [] kvs)))) EX
theorem pd_disp {ps : List (Key × DE)} (h : PDPs X E pos keys values ps) (h0 : keys ≠ [] := by simp) (h15 : keys.length ≤ 15 := by decide) : PD X E (.Dict keys values pos) (dDisp ps) := by
  obtain ⟨⟨trs, h1, h2⟩, l1, l2⟩ := h
  refine ⟨imE (pe_disp h1 l2 l1 h0 h15) fun σ H Q ⟨δ, G, R, EX, sr, hr, h, cr, cx⟩ => fun p hp => ?_⟩
  have u0 : Up H (upd H p (.dK [])) := Up.new hp
  refine h2 _ _ _ ⟨δ, updD G p (.dK []), _, EX, sr.up u0, hr.new (c := .dK []) hp ⟨[], upd_same, .nil⟩, h p (hr.none hp), fun ys H' kvs G' u1 g1 rk ⟨e, hl, q⟩ => ?_, cx.up u0⟩
  obtain ⟨ys0, e0, r0⟩ := g1 _ _ e
  cases r0
  refine ⟨e0, ys, rfl, by rw [rk.len]; exact hl, ?_⟩
  have u2 : ∀ o, Up H' (upd H' p o) := fun o => Up.put e0 trivial
  exact cr _ _ _ _ ((u0.trans u1).trans (u2 _)) (g1.put (c := .dK (mergeD [] kvs)) e0 trivial ⟨_, upd_same, (KVr.merge rk .nil).up (u2 _)⟩) (.ref p) q
end
theorem vps_of {prog : Program} {w : World} {h : Heap} : ∀ {prs : List (Key × Value)} {ps : List Addr}, prs.length = ps.length → (∀ (j : Nat) (q' : Key × Value), prs[j]? = some q' → ∃ (b : Addr) (u : Value), ps[j]? = some b ∧ IsTup h b #[u, q'.2] ∧ keyIs q'.1 u = true) →
    ∃ vps : List (Value × Value), vps.length = ps.length ∧ (∀ (j : Nat) (k v : Value), vps[j]? = some (k, v) → ∃ b, ps[j]? = some b ∧ IsTup h b #[k, v]) ∧ ∀ (j : Nat) (k v : Value), vps[j]? = some (k, v) → ∃ k', prs[j]? = some (k', v) ∧ keyIs k' k = true
  | [], [], _, _ => ⟨[], rfl, fun j k v e => by simp at e, fun j k v e => by simp at e⟩
  | [], _ :: _, hl, _ => by simp at hl
  | _ :: _, [], hl, _ => by simp at hl
  | p :: prs, b :: ps, hl, vk => by
    obtain ⟨b', u, e1, e2, e3⟩ := vk 0 p rfl
    cases e1
    obtain ⟨vps, h1, h2, h3⟩ := vps_of (prog := prog) (w := w) (h := h) (prs := prs) (ps := ps) (by simpa using hl) (fun j q' e => vk (j + 1) q' (by simpa using e))
    refine ⟨(u, p.2) :: vps, by simp [h1], fun j k v e => ?_, fun j k v e => ?_⟩
    · cases j with
      | zero => cases e; exact ⟨_, rfl, e2⟩
      | succ j => exact h2 j k v (by simpa using e)
    · cases j with
      | zero => cases e; exact ⟨_, rfl, e3⟩
      | succ j => exact h3 j k v (by simpa using e)
section
variable {X : Cx}
def rUpd (K : PySem.W.Frag) : V → List V → Hp → VK → Prop := fun x xs H Q => ∃ (d : Addr) (kvs : List (Key × V)) (a : Addr) (ps : List Addr) (more : List (Key × V)), x = .ref d ∧ xs = [.ref a] ∧ H d = some (.dK kvs) ∧ SqL K H a (ps.map V.ref) ∧ Paired (fun p kv => SqT K H p [kV kv.1, kv.2]) ps more ∧
  kvs.length + more.length ≤ sizeLine ∧ Q .non (upd H d (.dK (mergeK kvs more)))
theorem mt_update (hcalm : X.calm = true) : MtR X "dict.update" (rUpd X.K) := by
  intro pins s σ H x xs v us Q I rx rxs h
  obtain ⟨d, kvs, a, ps, more, rfl, rfl, ed, hq, hp, hz2, q⟩ := h
  cases rx
  obtain ⟨u, rfl, rx⟩ := vals1 rxs
  cases rx
  obtain ⟨z, hd, vs, rel0, dd⟩ := dk_of I.hok ed
  obtain ⟨its, rv, pl, hz⟩ := I.list hq
  have ei := refs_at rv
  subst ei
  rw [List.length_map] at hz
  obtain ⟨prs, rel, hl, hpr⟩ := pairs_of I hp
  obtain ⟨vps, v1, v2, v3⟩ := vps_of (prog := X.prog) (w := X.w) hl hpr
  let Ts : Nat → Addr := fun j => ps.getD j 0
  have P := PairArg.list (prog := X.prog) (w := X.w) a (ps.map Value.ref).toArray Ts vps
  obtain ⟨o, n, ho, hc, hdn, hdat⟩ := pl
  have ts : ∀ j b, ps[j]? = some b → Ts j = b := fun j b e => by
    show ps.getD j 0 = b
    rw [List.getD_eq_getElem?_getD, e]
    rfl
  have ok : PlainSeq "list" s.heap a (ps.map Value.ref).toArray ∧ PairItems s.heap (ps.map Value.ref).toArray Ts vps := by
    refine ⟨⟨o, n, ho, hc, hdn, hdat⟩, by simp [v1], fun j k v e => ?_⟩
    obtain ⟨b, e1, e2⟩ := v2 j k v e
    rw [ts j b e1]
    exact ⟨by simp [e1], .inl e2⟩
  have hdf : d ∉ a :: (List.range vps.length).map Ts := fun hm => by
    obtain ⟨od, hod, hcd⟩ := dd.typeIs
    rcases List.mem_cons.mp hm with e | hm
    · subst e
      rw [ho] at hod
      cases hod
      rw [hc] at hcd
      exact absurd hcd (by decide)
    · obtain ⟨j, hj, e⟩ := List.mem_map.mp hm
      have hj2 : j < vps.length := List.mem_range.mp hj
      obtain ⟨b, e1, o2, ho2, hc2, _⟩ := v2 j vps[j].1 vps[j].2 (by rw [List.getElem?_eq_getElem hj2])
      rw [ts j b e1] at e
      subst e
      rw [ho2] at hod
      cases hod
      rw [hc2] at hcd
      exact absurd hcd (by decide)
  have hml : more.length = vps.length := by rw [rel.length, hl, v1]
  have hkl : kvs.length = vs.length := rel0.length
  refine PySem.call_update_pairs (knd := mixKind X.prog X.w) (acc := vs) (kvs := prs) P (I.ok.hd hcalm) ok hdf ⟨hl.trans v1.symm, fun i key v rel => v3 i key v rel⟩ dd (by omega) fun h' tk hd' k => ?_
  have hlen : (mergeK kvs more).length ≤ sizeLine := Nat.le_trans (length_mergeK more kvs) hz2
  have hx : ∃ q, h'.get? d = some q := let ⟨q, _, _, hq, _⟩ := hd'; ⟨q, hq⟩
  exact ⟨.non, _, I.write (x := d) (e := d) (t' := tk) (by rw [ed]; exact True.intro) (.inl rfl) (fun b u hb e => k b u hb (by simp) e) hx (dk_new hlen hd (KV.merge rel rel0) hd'), rfl, q⟩
/-- d.update(a list of pairs) -/
def mUpd : DM := fun x xs G R => match x, xs with
  | .ref d, [y] => ∃ kvs l more, G d = some (.dK kvs) ∧ (∃ l', y = .rol l' ∧ l' = l) ∧ l.map keyed = more.map some ∧ kvs.length + more.length ≤ sizeLine ∧ R .non (updD G d (.dK (mergeD kvs more)))
  | _, _ => False
theorem md_update (hc : X.calm = true) : MD X "dict.update" mUpd := ⟨_, mt_update hc, fun T x xs H d ds G R Q hr r rs q cr => by
  unfold mUpd at q
  split at q
  · cases r
    cases rs with
    | cons r1 r2 =>
      cases r2
      obtain ⟨kvs, l, more, ed, ⟨l', e1, e2⟩, e3, hl, q⟩ := q
      subst e1 e2
      obtain ⟨ys, h1, h2⟩ := hr _ _ ed
      cases r1 with
      | rol hq rl =>
        obtain ⟨ps, zs, e4, e5, e6⟩ := keyed_v rl e3
        subst e4
        have u : ∀ o, Up H (upd H _ o) := fun o => Up.put h1 trivial
        exact ⟨_, ys, _, ps, zs, rfl, rfl, h1, hq.sqL, e5, by rw [h2.len, e6.len]; exact hl, cr _ _ _ _ (u _) (hr.put (c := .dK (mergeD kvs more)) h1 trivial ⟨_, upd_same, (KVr.merge e6 h2).up (u _)⟩) .non q⟩
  · exact False.elim q⟩
end
end Cc
/-! ### walking a text -/
namespace Cc
open PySem PySem.Spec PyProof.Rows L2
def signs (z : Str) : List D := z.cps.toList.map fun c => .str ⟨#[c]⟩
theorem src_str {K : KT} {H0 : Hp} (z : Str) : SrcOk K (Its z) (signs z) (fun _ => True) H0 where
  mono := fun _ _ _ h => h
  at_ := fun i H G u hr _ => by
    have hl : (signs z).length = z.cps.size := by unfold signs; rw [List.length_map, Array.length_toList]
    refine ⟨fun hi => ⟨show i < z.cps.size from by rw [← hl]; exact hi, fun x H' ⟨e, c, hc, ex⟩ => ?_⟩, fun hi => show z.cps.size ≤ i from by rw [← hl]; exact hi⟩
    subst e ex
    refine ⟨.str ⟨#[c]⟩, ?_, Up.refl _, hr, .str _⟩
    unfold signs
    rw [List.getElem?_map, Array.getElem?_toList, hc]
    rfl
def iStrD (da : DE) : DI := fun δ G RR EX => da δ G (fun d G1 => match d with
  | .str z => RR (signs z) (fun _ => True) G1
  | _ => False) EX
theorem pdi_str {X : Cx} {E : EK} {tg e : Expr} {de : DE} (he : PD X E e de) : PDI X E tg e (iStrD de) :=
  ⟨imI (pi_str he.pe) fun σ H R ⟨δ, G, RR, EX, sr, hr, h, cr, cx⟩ => ⟨δ, G, _, EX, sr, hr, h, fun v H1 d G1 u1 h1 r1 q1 => by
    dsimp only at q1
    split at q1
    · cases r1
      exact ⟨_, rfl, cr _ _ _ _ _ u1 h1 (src_str _) q1⟩
    · exact False.elim q1, cx⟩⟩
end Cc
/-! ### setdefault with tuple keys; pop; join -/
namespace Cc
open PySem PySem.Spec PyProof.Rows L2
section
variable {X : Cx} {pins : List (Addr × Obj)} {σ : L2.St} {H : Hp} {s : Shared} {a b : Addr} {k : List Key} {A : Around} {E : Value → Shared → Prop} {d : V} {r : Value}
theorem cs_setdT {kvs : List (List Key × V)} {Q : Value → Shared → Prop} (hu : A.units + 1 < cLine) (I : Inv X pins σ H s) (e : H a = some (.dT kvs)) (eb : H b = some (.tup (k.map kV))) (rd : RelV d r) (hl : kvs.length < sizeLine)
    (h1 : ∀ v, valV kvs k = some v → ∀ (w' : Value) (s' : Shared), Inv X pins σ H s' → RelV v w' → Q w' s') (h2 : valV kvs k = none → ∀ (w' : Value) (s' : Shared), Inv X pins σ (upd H a (.dT (putK kvs k d))) s' → RelV d w' → Q w' s') :
    wpAny (model X.prog X.w) A (call (.builtin "dict.setdefault") [.ref a, .ref b, r]) Q E s := by
  obtain ⟨z, hd, xs, rel, dd⟩ := dt_of I.hok e
  have hz : xs.length ≤ sizeLine := by rw [← Paired.length rel]; exact z
  have hl2 : (putK kvs k d).length ≤ sizeLine := by have := length_putK kvs k d; omega
  refine PySem.call_setdefault_heap (hsz := hz) (tupleKind_room_in1 hu) (key_of I.hok eb) hd dd (fun p hp => ?_) fun hn h' dd' hs => ?_
  · have q := rel.val k
    rw [hp] at q
    cases q0 : valV kvs k with
    | none => rw [q0] at q; exact (show False from q).elim
    | some v0 => rw [q0] at q; exact h1 v0 q0 _ _ (I.tok _) q
  · have q := rel.val k
    rw [hn] at q
    cases q0 : valV kvs k with
    | some v0 => rw [q0] at q; exact (show False from q).elim
    | none =>
      obtain ⟨o, es, ep, hq, h2', h3, h4, _, h5⟩ := dd'
      refine h2 q0 _ _ ?_ rd
      refine d_write I (by rw [e]; exact True.intro) hs ⟨o, hq⟩ ⟨hl2, hd, _, (rel.put k eb rd).keeps fun c ys ec => ?_, o, es, ep, hq, h2', h3, h4, h5⟩
      rw [upd_ne (ne_of ec e (fun z => nomatch z))]
      exact ec
def tSetdT (td ty tx : TE) : TE := fun σ H Q => td σ H fun x H1 => ∃ a, x = .ref a ∧ IsD H1 a ∧ ty σ H1 fun y H2 => tx σ H2 fun z H3 => ∃ (kvs : List (List Key × V)) (k : List Key) (b : Addr), H3 a = some (.dT kvs) ∧ y = .ref b ∧ H3 b = some (.tup (k.map kV)) ∧ kvs.length < sizeLine ∧
  (∀ v, valV kvs k = some v → Q v H3) ∧ (valV kvs k = none → Q z (upd H3 a (.dT (putK kvs k z))))
end
section
variable {X : Cx} {E : EK} {o e f : Expr} {td ty tx : TE} {apos cpos : Pos} {da db dc : DE}
theorem pe_setdT (hu : X.A.units + 1 < cLine) (ho : PE X o td) (he : PE X e ty) (hf : PE X f tx) (m : M2 X o "setdefault" apos e f cpos) : PE X (.Call (.Attribute o "setdefault" apos) [e, f] [] cpos) (tSetdT td ty tx) := by
  refine ⟨fun pins s σ H Q I h => ?_⟩
  refine wpAny_Call_method m.base m.few m.line PySem.F.plainAttrs_dict PySem.F.slot_dict_setdefault PySem.F.type_dict_setdefault (thn (ho.run pins s σ H _ I h) fun u s1 ⟨x, H1, I1, rx, a, ex, d, q1⟩ => ?_)
  subst ex
  obtain rfl : u = Value.ref a := rx
  obtain ⟨t1, t2, _⟩ := isD_at I1 d
  refine ⟨t1, t2, ?_⟩
  rw [m.trees]
  refine Calls.callWith_builtin rfl (Calls.evalArgs_plain (Calls.spliced_cons (thn (he.run pins s1 σ H1 _ I1 q1) fun iv s2 ⟨y, H2, I2, ry, q2⟩ =>
    Calls.spliced_cons (thn (hf.run pins s2 σ H2 _ I2 q2) fun fv s3 ⟨z, H3, I3, rz, kvs, k, b, ea, ey, eb, hl, q3, q4⟩ => Calls.spliced_nil ?_))))
  subst ey
  obtain rfl : iv = Value.ref b := ry
  exact cs_setdT hu I3 ea eb rz hl (fun v hv w' s4 I4 rw' => ⟨v, _, I4, rw', q3 v hv⟩) fun hn w' s4 I4 rw' => ⟨z, _, I4, rw', q4 hn⟩
/-- d.setdefault(y, z), its keys tuples -/
def dSetdT (da db dc : DE) : DE := fun δ G R EX => da δ G (fun x G1 => isDict G1 x ∧ db δ G1 (fun y G2 => dc δ G2 (fun z G3 => ∃ a kvs k, x = .ref a ∧ G3 a = some (.dT kvs) ∧ y = .key k ∧ kvs.length < sizeLine ∧ (match lookK kvs k with
  | some v => R v G3
  | none => R z (updD G3 a (.dT (putD kvs k z))))) EX) EX) EX
theorem pd_setdT (hu : X.A.units + 1 < cLine) (ha : PD X E o da) (hb : PD X E e db) (hc : PD X E f dc) (m : M2 X o "setdefault" apos e f cpos) : PD X E (.Call (.Attribute o "setdefault" apos) [e, f] [] cpos) (dSetdT da db dc) :=
  ⟨imE (pe_setdT hu ha.pe hb.pe hc.pe m) fun σ H Q ⟨δ, G, R, EX, sr, hr, h, cr, cx⟩ => ⟨δ, G, _, EX, sr, hr, h, fun v H1 x G1 u1 h1 r1 ⟨q0, q1⟩ => by
    obtain ⟨a, e1, e2⟩ := isDict_v h1 r1 q0
    refine ⟨a, e1, e2, δ, G1, _, EX, sr.up u1, h1, q1, fun w H2 y G2 u2 h2 r2 q2 => ⟨δ, G2, _, EX, sr.up (u1.trans u2), h2, q2, fun w3 H3 z G3 u3 h3 r3 q3 => ?_, cx.up (u1.trans u2)⟩, cx.up u1⟩
    obtain ⟨a', kvs, k, ex, ea, ek, hl, q3⟩ := q3
    subst ex ek
    cases r1
    cases e1
    have r2' := r2.up u3
    cases r2' with
    | key eb =>
    obtain ⟨ys, e3, r4⟩ := h3 _ _ ea
    have u123 := u1.trans (u2.trans u3)
    have u : ∀ o, Up H3 (upd H3 _ o) := fun o => Up.put e3 trivial
    refine ⟨ys, k, _, e3, rfl, eb, by rw [r4.len]; exact hl, fun z' hz => ?_, fun hz => ?_⟩
    · cases el : lookK kvs k with
      | none => rw [r4.lookN el] at hz; cases hz
      | some d =>
        rw [el] at q3
        obtain ⟨z2, e5, e6⟩ := r4.look el
        rw [hz] at e5
        cases e5
        exact cr _ _ _ _ u123 h3 e6 q3
    · cases el : lookK kvs k with
      | some d =>
        obtain ⟨z2, e5, e6⟩ := r4.look el
        rw [hz] at e5
        cases e5
      | none =>
        rw [el] at q3
        exact cr _ _ _ _ (u123.trans (u _)) (h3.put (c := .dT (putD kvs k z)) e3 trivial ⟨_, upd_same, KVr.putD (r3.up (u _)) (r4.up (u _))⟩) (r3.up (u _)) q3, cx⟩⟩
/-- d.pop(y), there -/
def dropD {κ : Type} [DecidableEq κ] (kvs : List (κ × D)) (k : κ) : List (κ × D) := kvs.filter fun kv => !decide (kv.1 = k)
theorem KVr.drop {K : KT} {H : Hp} {κ : Type} [DecidableEq κ] {k : κ} : ∀ {xs : List (κ × V)} {ys : List (κ × D)}, KVr K H xs ys → KVr K H (dropK xs k) (dropD ys k)
  | _, _, .nil => .nil
  | _, _, .cons (a := p) (b := q) h t => by
    have ih := KVr.drop (k := k) t
    unfold dropK dropD at *
    rw [List.filter_cons, List.filter_cons]
    by_cases hk : q.1 = k
    · rw [if_neg (by simp [h.1, hk]), if_neg (by simp [hk])]
      exact ih
    · rw [if_pos (by simp [h.1, hk]), if_pos (by simp [hk])]
      exact Paired.cons h ih
def dPop1 (da db : DE) : DE := fun δ G R EX => da δ G (fun x G1 => isDict G1 x ∧ db δ G1 (fun y G2 => ∃ a kvs k v, x = .ref a ∧ G2 a = some (.dK kvs) ∧ y.ky = some k ∧ lookK kvs k = some v ∧ R v (updD G2 a (.dK (dropD kvs k)))) EX) EX
theorem pd_pop1 (ha : PD X E o da) (hb : PD X E e db) (m : M1 X o "pop" apos e cpos) : PD X E (.Call (.Attribute o "pop" apos) [e] [] cpos) (dPop1 da db) :=
  ⟨imE (pe_dpop1 ha.pe hb.pe m) fun σ H Q ⟨δ, G, R, EX, sr, hr, h, cr, cx⟩ => ⟨δ, G, _, EX, sr, hr, h, fun v H1 x G1 u1 h1 r1 ⟨q0, q1⟩ => by
    obtain ⟨a, e1, e2⟩ := isDict_v h1 r1 q0
    refine ⟨a, e1, e2, δ, G1, _, EX, sr.up u1, h1, q1, fun w H2 y G2 u2 h2 r2 q2 => ?_, cx.up u1⟩
    obtain ⟨a', kvs, k, v, ex, ea, ek, el, q3⟩ := q2
    subst ex
    cases r1
    cases e1
    obtain ⟨ys, e3, r4⟩ := h2 _ _ ea
    have u : ∀ o, Up H2 (upd H2 _ o) := fun o => Up.put e3 trivial
    obtain ⟨z2, e5, e6⟩ := r4.look el
    exact ⟨ys, k, z2, e3, ky_v r2 ek, e5, cr _ _ _ _ ((u1.trans u2).trans (u _)) (h2.put (c := .dK (dropD kvs k)) e3 trivial ⟨_, upd_same, (KVr.drop r4).up (u _)⟩) (e6.up (u _)) q3⟩, cx⟩⟩
end
section
variable {X : Cx}
theorem dvL_strs {K : KT} {H : Hp} : ∀ {vs : List V} {zs : List Str}, DvL K H vs (zs.map D.str) → vs = zs.map V.str
  | _, [], h => by cases h; rfl
  | _, z :: zs, h => by
    cases h with
    | cons h t => cases h; rw [dvL_strs t]; rfl
/-- sep.join(a list of texts) -/
def mJoin : DM := fun x xs G R => match x, xs with
  | .str a, [.rol l] => ∃ ys : List Str, l = ys.map .str ∧ (ys.map (·.length)).sum + ys.length * a.length ≤ 16777216 ∧ R (.str (Txt.join a ys)) G
  | _, _ => False
theorem md_join : MD X "str.join" mJoin := ⟨_, mt_join, fun T x xs H d ds G R Q hr r rs q cr => by
  unfold mJoin at q
  split at q
  · cases r
    cases rs with
    | cons r1 r2 =>
      cases r2
      obtain ⟨ys, e1, hz, q⟩ := q
      subst e1
      cases r1 with
      | rol hq rl =>
        rw [dvL_strs rl] at hq
        exact ⟨_, _, ys, rfl, rfl, .inl hq.sqL, hz, cr _ _ _ _ (Up.refl H) hr (.str _) q⟩
  · exact False.elim q⟩
end
end Cc
/-! ### d[k] of a dict that nobody changes -/
namespace Cc
open PySem PySem.Spec PyProof.Rows L2
section
variable {X : Cx}
/-- d[k], k there -/
def dIxO : D2 := fun x y G R => match getOf G x y with
  | some (some d) => R d G
  | _ => False
theorem ixdO (hu : X.A.units + 1 < cLine) : IxD X dIxO := ⟨_, ix_dict hu, fun T x y H d e G R Q hr rx ry q cr => by
  unfold dIxO at q
  split at q
  · rename_i r er
    obtain ⟨a, u, e3, e4, e5, e6⟩ := getOf_v hr rx ry er
    obtain ⟨z, e7, e8⟩ := e5 r rfl
    subst e7
    exact ⟨a, z, e3, e4, cr _ _ _ _ (Up.refl H) hr e8 q⟩
  · exact False.elim q⟩
theorem ixO_rod {kvs : List (Key × D)} {k : Int} {d : D} {G : DH} {R : DK} (e : lookK kvs (Sum.inl k) = some d) (q : R d G) : dIxO (.rod kvs) (.int k) G R := by
  have : getOf G (.rod kvs) (.int k) = some (some d) := by
    show Option.map _ (some (Sum.inl k)) = _
    rw [Option.map_some, e]
  unfold dIxO
  rw [this]
  exact q
end
end Cc
/-! ### sorted(set(xs)), xs a list of pairs of small ints, nobody changes it -/
namespace Cc
open PySem PySem.Spec PyProof.Rows L2
def twoD (p : Int × Int) : D := .tup [.int p.1, .int p.2]
/-- a pair stands ahead of another -/
def pairLt (p q : Int × Int) : Prop := p.1 < q.1 ∨ (p.1 = q.1 ∧ p.2 < q.2)
def pairOf : List Int → Int × Int
  | [a, b] => (a, b)
  | _ => (0, 0)
theorem dvL_intsV {K : KT} {H : Hp} {a b : Int} : ∀ {xs : List V}, DvL K H xs [D.int a, D.int b] → xs = [V.int a, V.int b]
  | _, h => by
    cases h with
    | cons h t =>
      cases t with
      | cons h2 t2 =>
        cases t2
        cases h
        cases h2
        rfl
theorem refs_pairs {K : KT} {H : Hp} : ∀ {ps : List (Int × Int)} {xs : List V}, DvL K H xs (ps.map twoD) → ∃ ks : List (Addr × List Int), xs = ks.map (fun p => V.ref p.1) ∧ ks.map (·.2) = ps.map (fun p => [p.1, p.2]) ∧ ∀ p ∈ ks, SqT K.1 H p.1 (p.2.map V.int)
  | [], _, h => by
    cases h
    exact ⟨[], rfl, rfl, fun p hp => (by cases hp)⟩
  | p :: ps, _, h => by
    cases h with
    | cons h t =>
      obtain ⟨ks, e1, e2, e3⟩ := refs_pairs t
      cases h with
      | @tup a xs _ hq hl =>
        refine ⟨(a, [p.1, p.2]) :: ks, by rw [e1]; rfl, by rw [List.map_cons, List.map_cons, e2], fun q hm => ?_⟩
        rcases List.mem_cons.mp hm with z | z
        · subst z
          rw [dvL_intsV hl] at hq
          exact hq
        · exact e3 q z
theorem pairs_refs {K : KT} {H : Hp} : ∀ {ks : List (Addr × List Int)}, (∀ p ∈ ks, p.2.length = 2 ∧ SqT K.1 H p.1 (p.2.map V.int)) → DvL K H (ks.map fun p => V.ref p.1) ((ks.map fun p => pairOf p.2).map twoD)
  | [], _ => .nil
  | p :: ks, h => by
    obtain ⟨hl, hq⟩ := h p List.mem_cons_self
    have ih := pairs_refs (K := K) (H := H) (ks := ks) fun q hm => h q (List.mem_cons_of_mem _ hm)
    obtain ⟨a, ns⟩ := p
    match ns, hl with
    | [x, y], _ => exact .cons (.tup hq (.cons (.int x) (.cons (.int y) .nil))) ih
def dSortSet (da : DE) : DE := fun δ G R EX => da δ G (fun x G1 => ∃ ps : List (Int × Int), x = .rol (ps.map twoD) ∧ ps.length < 64 ∧ (∀ p ∈ ps, (0 ≤ p.1 ∧ p.1 < 64) ∧ 0 ≤ p.2 ∧ p.2 < 64) ∧
  ∀ qs : List (Int × Int), qs.Pairwise pairLt → (∀ q, q ∈ qs ↔ q ∈ ps) → R (.rol (qs.map twoD)) G1) EX
section
variable {X : Cx} {E : EK} {a : Expr} {da : DE}
theorem pd_sortSet {p p2 q pos : Pos} (hm : X.mg "sorted" = none) (hm2 : X.mg "set" = none) (ha : PD X E a da) (hu : X.A.units + 64 < cLine) (hc : X.calm = true := by rfl) (hg : Gl X "sorted" := by rfl) (hg2 : Gl X "set" := by rfl)
    (na : starEach [a] X.env = (false, eval a X.env) :: starEach [] X.env := by rfl) (na2 : starEach [Expr.Call (.Name "set" p2) [a] [] q] X.env = (false, eval (Expr.Call (.Name "set" p2) [a] [] q) X.env) :: starEach [] X.env := by rfl) : PD X E (.Call (.Name "sorted" p) [.Call (.Name "set" p2) [a] [] q] [] pos) (dSortSet da) :=
  ⟨imE (pe_frz (pe_callB (cr_sortedT hc) hg hm (by decide +kernel) (pa_cons (pe_callTy (cr_setOfT hc hu) hg2 hm2 (by decide +kernel) (pa_cons ha.pe pa_nil (hs := na)) (he := na)) pa_nil (hs := na2)) (he := na2))) fun σ H Q ⟨δ, G, R, EX, sr, hr, h, cr, cx⟩ => ⟨δ, G, _, EX, sr, hr, h, fun v H1 x G1 u1 h1 r1 ⟨ps, e1, e2, e3, q1⟩ => by
    subst e1
    cases r1 with
    | rol hq hl =>
      rename_i l xs
      obtain ⟨ks, e4, e5, e6⟩ := refs_pairs hl
      subst e4
      have kl : ks.length = ps.length := by
        have := congrArg List.length e5
        rw [List.length_map, List.length_map] at this
        exact this
      have two : ∀ k ∈ ks, ∃ z ∈ ps, k.2 = [z.1, z.2] := fun k hk => by
        have : k.2 ∈ ks.map (·.2) := List.mem_map.mpr ⟨k, hk, rfl⟩
        rw [e5] at this
        obtain ⟨z, hz, e⟩ := List.mem_map.mp this
        exact ⟨z, hz, e.symm⟩
      refine ⟨l, ks, rfl, hq.sqL, e6, by omega, fun s L hn hsub hall => ?_⟩
      have u2 : Up H1 (upd H1 s (SetTO X.prog X.w s L)) := Up.new hn
      refine ⟨s, L, 2, 64, rfl, upd_same, fun k hk => u2.sqT (e6 k (hsub k hk)), by decide, fun k hk => ?_, fun L' b pm nd few pw hb => ?_⟩
      · obtain ⟨z, hz, e⟩ := two k (hsub k hk)
        rw [e]
        obtain ⟨b1, b2⟩ := e3 z hz
        refine ⟨rfl, fun m hm => ?_⟩
        rcases List.mem_cons.mp hm with y | y
        · rw [y]; exact b1
        · rw [List.mem_singleton.mp y]; exact b2
      · have sub' : ∀ k ∈ L', k ∈ ks := fun k hk => hsub k (pm.mem_iff.mp hk)
        have u3 : Up (upd H1 s (SetTO X.prog X.w s L)) (upd (upd H1 s (SetTO X.prog X.w s L)) b (.lst (L'.map fun q => V.ref q.1))) := Up.new hb
        have hr2 := h1.new0 (o := SetTO X.prog X.w s L) hn
        have dv : DvL (X.K, E.2) (upd (upd H1 s (SetTO X.prog X.w s L)) b (.lst (L'.map fun q => V.ref q.1))) (L'.map fun q => V.ref q.1) ((L'.map fun q => pairOf q.2).map twoD) := pairs_refs fun k hk => by
          obtain ⟨z, hz, e⟩ := two k (sub' k hk)
          exact ⟨by rw [e]; rfl, u3.sqT (u2.sqT (e6 k (sub' k hk)))⟩
        refine clo_fz cr _ _ _ _ ((u1.trans u2).trans u3) (hr2.new (c := .lst _) hb ⟨_, upd_same, dv⟩) (.ref b) (fzv_new (q1 _ ?_ fun q => ?_) b (hr2.none hb))
        · refine List.pairwise_map.mpr (List.Pairwise.imp_of_mem (fun {k k'} hk hk' h => ?_) ((List.pairwise_map.mp nd).and pw))
          obtain ⟨z, hz, e⟩ := two k (sub' k hk)
          obtain ⟨z', hz', e'⟩ := two k' (sub' k' hk')
          obtain ⟨b1, b2⟩ := e3 z hz
          obtain ⟨b3, b4⟩ := e3 z' hz'
          obtain ⟨h1, h2⟩ := h
          rw [e, e'] at h1 h2
          rw [e, e']
          exact pair_lt h2 h1 b1 b2 b3 b4
        · constructor
          · intro hq
            obtain ⟨k, hk, rfl⟩ := List.mem_map.mp hq
            obtain ⟨z, hz, e⟩ := two k (sub' k hk)
            rw [e]
            exact hz
          · intro hq
            have : [q.1, q.2] ∈ ks.map (·.2) := by rw [e5]; exact List.mem_map.mpr ⟨q, hq, rfl⟩
            obtain ⟨k, hk, e⟩ := List.mem_map.mp this
            obtain ⟨k2, hk2, e2⟩ := List.mem_map.mp (hall k hk)
            refine List.mem_map.mpr ⟨k2, pm.mem_iff.mpr hk2, ?_⟩
            show pairOf k2.2 = q
            rw [show k2.2 = [q.1, q.2] from e2.trans e]
            rfl
      , cx⟩⟩
end
end Cc
/-! ### tuples that are keys; continue, break -/
namespace Cc
open PySem PySem.Spec PyProof.Rows L2
section
variable {X : Cx}
/-- a proper part of a tuple, as a key -/
def sSlK : D → Option Int → Option Int → DH → DK → Prop := fun x lo hi G R => ∃ l ks, x.tl = some l ∧ ¬ (HT.sIx l.length 0 lo = 0 ∧ HT.sIx l.length l.length hi = l.length) ∧ (cutD l lo hi).map D.ky = ks.map some ∧ R (.key ks) G
theorem sldK : SlD X sSlK := ⟨_, sl_tup, fun T x lo hi H d G R Q hr r q cr => by
  obtain ⟨l, ks, el, hw, ek, q⟩ := q
  obtain ⟨a, xs, h1, h2, h3⟩ := r.sqT el
  refine ⟨a, xs, h1, h2, fun z => hw (by rw [h3.length] at z; exact z), fun p hp => ?_⟩
  rw [keys_v (h3.cut lo hi) ek]
  exact cr _ _ _ _ (Up.new hp) (hr.new0 hp) (.key upd_same) q⟩
/-- two tuples as one, a key -/
def dAddK : D2 := fun x y G R => ∃ l m ks, x.tl = some l ∧ y.tl = some m ∧ l ≠ [] ∧ m ≠ [] ∧ l.length + m.length ≤ 1000 ∧ (l ++ m).map D.ky = ks.map some ∧ R (.key ks) G
theorem od_addK : OD X (binaryOp .Add) dAddK := ⟨_, op_catT, fun T x y H d e G R Q hr rx ry q cr => by
  obtain ⟨l, m, ks, el, em, nl, nm, hz, ek, q⟩ := q
  obtain ⟨a, xs, rfl, ha, ra⟩ := rx.sqT el
  obtain ⟨b, ys, rfl, hb, rb⟩ := ry.sqT em
  refine ⟨a, b, xs, ys, rfl, rfl, ha, hb, fun z => nl ?_, ?_, fun z => absurd ?_ nm, fun _ p hp => ?_⟩
  · have := ra.length
    rw [z] at this
    exact List.length_eq_zero_iff.mp this.symm
  · have z := sizeLine_eq
    rw [ra.length, rb.length]; omega
  · have := rb.length
    rw [z] at this
    exact List.length_eq_zero_iff.mp this.symm
  · rw [keys_v (ra.append rb) ek]
    exact cr _ _ _ _ (Up.new hp) (hr.new0 hp) (.key upd_same) q⟩
end
/-- continue -/
def sCont : DSt := fun D δ G => D.ct δ G
section
variable {X : Cx} {E : EK} {pos : Pos}
theorem pds_cont : PDS X E (.Continue pos) sCont := ⟨imS ps_continue fun Dn σ H ⟨δ, G, DD, sr, hr, h, cn, ct, cb, cc, cx⟩ => cc _ _ _ _ (Up.refl H) sr hr h⟩
/-- break -/
def sBrk : DSt := fun D δ G => D.bk δ G
theorem pds_brk : PDS X E (.Break pos) sBrk := ⟨imS ps_break fun Dn σ H ⟨δ, G, DD, sr, hr, h, cn, ct, cb, cc, cx⟩ => cb _ _ _ _ (Up.refl H) sr hr h⟩
end
end Cc
/-! ### equality of data of one make, whatever their texts are -/
namespace Cc
open PySem PySem.Spec PyProof.Rows L2
open PySem.SeqAt (EqAt RcAt RcNeAt pairEq)
mutual
inductive Cm : PyData → PyData → Prop
  | nn : Cm .none .none
  | ni (i : Int) : Cm .none (.int i)
  | im (i : Int) : Cm (.int i) .none
  | ii (i j : Int) : Cm (.int i) (.int j)
  | ss (x y : Str) : Cm (.str x) (.str y)
  | ll {xs ys : List PyData} : CmL xs ys → Cm (.list xs) (.list ys)
  | tt {xs ys : List PyData} : CmL xs ys → Cm (.tuple xs) (.tuple ys)
inductive CmL : List PyData → List PyData → Prop
  | l (ys : List PyData) : CmL [] ys
  | r (xs : List PyData) : CmL xs []
  | c {x y : PyData} {xs ys : List PyData} : Cm x y → CmL xs ys → CmL (x :: xs) (y :: ys)
end
mutual
theorem Cm.uq {h : Heap} : ∀ {d e : PyData} {v : Value} {as bs : List Addr}, Cm d e → Reads h v d as → Reads h v e bs → d = e
  | _, _, _, _, _, .nn, _, _ => rfl
  | _, _, _, _, _, .ni i, r, r' => by cases r; cases r'
  | _, _, _, _, _, .im i, r, r' => by cases r; cases r'
  | _, _, _, _, _, .ii i j, r, r' => by cases r; cases r'; rfl
  | _, _, _, _, _, .ss i j, r, r' => by cases r; cases r'; rfl
  | _, _, _, _, _, .ll q, r, r' => by
    cases r with
    | list a1 a2 a3 a4 =>
      cases r' with
      | list b1 b2 b3 b4 =>
        rw [a1] at b1
        cases b1
        rw [a3] at b3
        cases b3
        rw [CmL.uq q a4 b4]
  | _, _, _, _, _, .tt q, r, r' => by
    cases r with
    | tuple a1 a2 a3 a4 =>
      cases r' with
      | tuple b1 b2 b3 b4 =>
        rw [a1] at b1
        cases b1
        rw [a3] at b3
        cases b3
        rw [CmL.uq q a4 b4]
theorem CmL.uq {h : Heap} : ∀ {xs ys : List PyData} {vs : List Value} {as bs : List Addr}, CmL xs ys → ReadsAll h vs xs as → ReadsAll h vs ys bs → xs = ys
  | _, _, _, _, _, .l ys, r, r' => by cases r; cases r'; rfl
  | _, _, _, _, _, .r xs, r, r' => by cases r'; cases r; rfl
  | _, _, _, _, _, .c p q, r, r' => by
    cases r with
    | cons a1 a2 =>
      cases r' with
      | cons b1 b2 => rw [Cm.uq p a1 b1, CmL.uq q a2 b2]
end
mutual
theorem Cm.rf : ∀ {d e : PyData}, Cm d e → d = e → PyData.eqv d e = true
  | _, _, .nn, _ => rfl
  | _, _, .ni i, h => by cases h
  | _, _, .im i, h => by cases h
  | _, _, .ii i j, h => by cases h; simp [PyData.eqv]
  | _, _, .ss i j, h => by cases h; simp [PyData.eqv]
  | _, _, .ll q, h => by
    rw [PyData.eqv]
    exact CmL.rf q (by injection h)
  | _, _, .tt q, h => by
    rw [PyData.eqv]
    exact CmL.rf q (by injection h)
theorem CmL.rf : ∀ {xs ys : List PyData}, CmL xs ys → xs = ys → PyData.eqvAll xs ys = true
  | _, _, .l ys, h => by subst h; rfl
  | _, _, .r xs, h => by subst h; rfl
  | _, _, .c p q, h => by
    injection h with h1 h2
    rw [PyData.eqvAll, Cm.rf p h1, CmL.rf q h2]
    rfl
end
theorem units65 {k : Nat} {A : Around} (r : Room k A) : A.units + 65 < cLine := by
  have := r.un
  omega
theorem rd_len {h : Heap} {vs : Array Value} {xs : List PyData} {as : List Addr} (r : ReadsAll h vs.toList xs as) : vs.size = xs.length := by
  have := SeqAt.ReadsAll.length _ _ _ r
  rw [Array.length_toList] at this
  exact this
mutual
theorem Cm.eq {s : Shared} : ∀ {d e : PyData} {a b : Value} {as bs : List Addr} {A : Around}, Cm d e → Reads s.heap a d as → Reads s.heap b e bs → A.units + min d.depth e.depth < cLine → EqAt A s a b (PyData.eqv d e)
  | _, _, _, _, _, _, _, .nn, r, r', _ => by cases r; cases r'; exact EqAt.same _
  | _, _, _, _, _, _, _, .ni i, r, r', _ => by cases r; cases r'; exact EqAt.none_int i _
  | _, _, _, _, _, _, _, .im i, r, r', _ => by cases r; cases r'; exact EqAt.int_none i _
  | _, _, _, _, _, _, _, .ii i j, r, r', _ => by cases r; cases r'; exact EqAt.int_int i _ j _
  | _, _, _, _, _, _, _, .ss i j, r, r', _ => by cases r; cases r'; exact EqAt.str_str i _ j _
  | _, _, _, _, _, _, A, @Cm.ll xs ys q, r, r', hu => by
    have u0 := SeqAt.room_here hu
    cases r with
    | @list l o vs n _ as1 a1 a2 a3 a4 =>
      cases r' with
      | @list l' o' ws n' _ bs1 b1 b2 b3 b4 =>
        rw [PyData.eqv]
        by_cases hll : l = l'
        · subst hll
          have e := Cm.uq (.ll q) (.list a1 a2 a3 a4) (.list b1 b2 b3 b4)
          rw [CmL.rf q (by injection e)]
          exact EqAt.same _
        · have k1 := rd_len a4
          have k2 := rd_len b4
          by_cases hz : vs.size = ws.size
          · rw [← SeqAt.eqvAll_same_length (xs := xs) (ys := ys) (by omega), ← k1]
            refine EqAt.of_refs hll (RcAt.lists ⟨_, a1, a2, _, a3⟩ ⟨_, b1, b2, _, b3⟩ hz u0 fun j j1 j2 => ?_)
            have := CmL.eq (A := A.in1) q a4 b4 (SeqAt.room_in hu) j (by rw [Array.length_toList]; exact j1) (by rw [Array.length_toList]; exact j2)
            rw [Array.getElem_toList, Array.getElem_toList] at this
            exact this
          · rw [SeqAt.eqvAll_other_length (xs := xs) (ys := ys) (by omega)]
            exact EqAt.of_refs hll (RcAt.lists_lengths ⟨_, a1, a2, _, a3⟩ ⟨_, b1, b2, _, b3⟩ (by simpa using hz) u0)
  | _, _, _, _, _, _, A, @Cm.tt xs ys q, r, r', hu => by
    have u0 := SeqAt.room_here hu
    cases r with
    | @tuple l o vs n _ as1 a1 a2 a3 a4 =>
      cases r' with
      | @tuple l' o' ws n' _ bs1 b1 b2 b3 b4 =>
        rw [PyData.eqv]
        by_cases hll : l = l'
        · subst hll
          have e := Cm.uq (.tt q) (.tuple a1 a2 a3 a4) (.tuple b1 b2 b3 b4)
          rw [CmL.rf q (by injection e)]
          exact EqAt.same _
        · rw [← SeqAt.eqvAll_eq xs ys, ← rd_len a4, ← rd_len b4]
          refine EqAt.of_refs hll (RcAt.tuples ⟨_, a1, a2, _, a3⟩ ⟨_, b1, b2, _, b3⟩ u0 fun j j1 j2 => ?_)
          have := CmL.eq (A := A.in1) q a4 b4 (SeqAt.room_in hu) j (by rw [Array.length_toList]; exact j1) (by rw [Array.length_toList]; exact j2)
          rw [Array.getElem_toList, Array.getElem_toList] at this
          exact this
theorem CmL.eq {s : Shared} : ∀ {xs ys : List PyData} {vs ws : List Value} {as bs : List Addr} {A : Around}, CmL xs ys → ReadsAll s.heap vs xs as → ReadsAll s.heap ws ys bs → A.units + min (PyData.depthAll xs) (PyData.depthAll ys) < cLine →
    ∀ j (h1 : j < vs.length) (h2 : j < ws.length), EqAt A s vs[j] ws[j] (pairEq xs ys j)
  | _, _, _, _, _, _, _, .l ys, r, r', _, j, h1, h2 => by cases r; exact absurd h1 (Nat.not_lt_zero _)
  | _, _, _, _, _, _, _, .r xs, r, r', _, j, h1, h2 => by cases r'; exact absurd h2 (Nat.not_lt_zero _)
  | _, _, _, _, _, _, _, .c p q, r, r', hu, j, h1, h2 => by
    cases r with
    | cons a1 a2 =>
      cases r' with
      | cons b1 b2 =>
        cases j with
        | zero => exact Cm.eq p a1 b1 (SeqAt.room_head hu)
        | succ j => exact CmL.eq q a2 b2 (SeqAt.room_tail hu) j (Nat.lt_of_succ_lt_succ h1) (Nat.lt_of_succ_lt_succ h2)
end
section
variable {s : Shared} {A : Around} {a b : Value} {xs ys : List PyData} {as bs : List Addr}
theorem CmL.rc (q : CmL xs ys) (r : Reads s.heap a (.list xs) as) (r' : Reads s.heap b (.list ys) bs) (hu : A.units + min (PyData.list xs).depth (PyData.list ys).depth < cLine) :
    RcAt A s a b (PyData.eqvAll xs ys) ∧ RcNeAt A s a b (!PyData.eqvAll xs ys) := by
  have u0 := SeqAt.room_here hu
  cases r with
  | @list l o vs n _ as1 a1 a2 a3 a4 =>
    cases r' with
    | @list l' o' ws n' _ bs1 b1 b2 b3 b4 =>
      have k1 := rd_len a4
      have k2 := rd_len b4
      by_cases hz : vs.size = ws.size
      · rw [← SeqAt.eqvAll_same_length (xs := xs) (ys := ys) (by omega), ← k1]
        have key : ∀ j (j1 : j < vs.size) (j2 : j < ws.size), EqAt A.in1 s vs[j] ws[j] (pairEq xs ys j) := fun j j1 j2 => by
          have := CmL.eq (A := A.in1) q a4 b4 (SeqAt.room_in hu) j (by rw [Array.length_toList]; exact j1) (by rw [Array.length_toList]; exact j2)
          rw [Array.getElem_toList, Array.getElem_toList] at this
          exact this
        exact ⟨RcAt.lists ⟨_, a1, a2, _, a3⟩ ⟨_, b1, b2, _, b3⟩ hz u0 key, RcNeAt.lists ⟨_, a1, a2, _, a3⟩ ⟨_, b1, b2, _, b3⟩ hz u0 key⟩
      · rw [SeqAt.eqvAll_other_length (xs := xs) (ys := ys) (by omega)]
        exact ⟨RcAt.lists_lengths ⟨_, a1, a2, _, a3⟩ ⟨_, b1, b2, _, b3⟩ (by simpa using hz) u0, RcNeAt.lists_lengths ⟨_, a1, a2, _, a3⟩ ⟨_, b1, b2, _, b3⟩ (by simpa using hz) u0⟩
/-- what a value reads as, of some data -/
noncomputable def rdOf (h : Heap) (P : PyData → Prop) (v : Value) : PyData := open Classical in if hx : ∃ d as, P d ∧ Reads h v d as then hx.choose else .none
theorem rdOf_eq {h : Heap} {P : PyData → Prop} {v : Value} {d : PyData} (cm : ∀ u u', P u → P u' → Cm u u') (hd : P d) (r : Reads h v d as) : rdOf h P v = d := by
  have hx : ∃ d as, P d ∧ Reads h v d as := ⟨d, as, hd, r⟩
  unfold rdOf
  rw [dif_pos hx]
  obtain ⟨as', hp, r'⟩ := hx.choose_spec
  exact Cm.uq (cm _ _ hp hd) r' r
theorem rd_map {h : Heap} {P : PyData → Prop} (cm : ∀ u u', P u → P u' → Cm u u') : ∀ {xs : List PyData} {vs : List Value} {as : List Addr}, (∀ x ∈ xs, P x) → ReadsAll h vs xs as → vs.map (rdOf h P) = xs
  | [], _, _, _, r => by cases r; rfl
  | x :: xs, _, _, hp, r => by
    cases r with
    | cons r1 r2 => rw [List.map_cons, rdOf_eq cm (hp x List.mem_cons_self) r1, rd_map cm (fun y hy => hp y (List.mem_cons_of_mem _ hy)) r2]
theorem rd_mem {h : Heap} : ∀ {xs : List PyData} {vs : List Value} {as : List Addr}, ReadsAll h vs xs as → ∀ y ∈ vs, ∃ d ∈ xs, ∃ bs, Reads h y d bs
  | [], _, _, r, y, hy => by cases r; cases hy
  | x :: xs, _, _, r, y, hy => by
    cases r with
    | cons r1 r2 =>
      rcases List.mem_cons.mp hy with rfl | hy
      · exact ⟨x, List.mem_cons_self, _, r1⟩
      · obtain ⟨d, hd, bs, r⟩ := rd_mem r2 y hy
        exact ⟨d, List.mem_cons_of_mem _ hd, bs, r⟩
end
section
variable {X : Cx}
def rInC (K : PySem.W.Frag) : R2 := fun x y H Q => ∃ d es, Dp K H x d ∧ Dp K H y (.list es) ∧ (∀ e ∈ es, Cm e d) ∧ (∀ e ∈ es, ∀ e' ∈ es, Cm e e') ∧ d.depth ≤ 60 ∧ Q (.bl (es.any fun e => PyData.eqv e d)) H
theorem op_inC (hu : X.A.units + 65 < cLine) : OpR X (compareOp .In) (rInC X.K) := by
  intro pins s σ H x y v u Q I rx ry h
  obtain ⟨d, es, hd, he, c1, c2, dd, q⟩ := h
  obtain ⟨as, r1⟩ := Dp.reads I d x v hd rx
  obtain ⟨bs, r2⟩ := Dp.reads I (.list es) y u he ry
  cases r2 with
  | @list l o vs n _ as1 a1 a2 a3 a4 =>
    have cm : ∀ u u', u ∈ es → u' ∈ es → Cm u u' := fun u u' h h' => c2 u h u' h'
    refine SeqAt.in_listAt (fun y => PyData.eqv (rdOf s.heap (· ∈ es) y) d) ⟨_, a1, a2, _, a3⟩ (fun y hy => ?_) ⟨.bl _, H, I, rfl, ?_⟩
    · obtain ⟨e, he, bs, re⟩ := rd_mem a4 y (by simpa using hy)
      rw [rdOf_eq cm he re]
      refine Cm.eq (c1 e he) re r1 ?_
      have h2 : min e.depth d.depth ≤ d.depth := Nat.min_le_right _ _
      show X.A.units + 1 + _ < cLine
      omega
    · have e1 : vs.any (fun y => PyData.eqv (rdOf s.heap (· ∈ es) y) d) = es.any fun e => PyData.eqv e d := by
        rw [← Array.any_toList]
        have h2 := rd_map cm (fun x h => h) a4
        conv => rhs; rw [← h2, List.any_map]
        rfl
      rw [e1]
      exact q
def rEqC (K : PySem.W.Frag) (ne : Bool) : R2 := fun x y H Q => ∃ ds es, Dp K H x (.list ds) ∧ Dp K H y (.list es) ∧ CmL ds es ∧ (PyData.list ds).depth ≤ 60 ∧ Q (.bl (if ne then !PyData.eqvAll ds es else PyData.eqvAll ds es)) H
theorem op_eqC (hu : X.A.units + 64 < cLine) : OpR X (compareOp .Eq) (rEqC X.K false) := by
  intro pins s σ H x y v u Q I rx ry h
  obtain ⟨d, e, hd, he, c, dd, q⟩ := h
  obtain ⟨as, r1⟩ := Dp.reads I _ x v hd rx
  obtain ⟨bs, r2⟩ := Dp.reads I _ y u he ry
  have h2 : min (PyData.list d).depth (PyData.list e).depth ≤ (PyData.list d).depth := Nat.min_le_left _ _
  exact (c.rc r1 r2 (by omega)).1 X.prog X.w X.xe _ ⟨.bl _, H, I, rfl, q⟩
theorem op_neC (hu : X.A.units + 64 < cLine) : OpR X (compareOp .NotEq) (rEqC X.K true) := by
  intro pins s σ H x y v u Q I rx ry h
  obtain ⟨d, e, hd, he, c, dd, q⟩ := h
  obtain ⟨as, r1⟩ := Dp.reads I _ x v hd rx
  obtain ⟨bs, r2⟩ := Dp.reads I _ y u he ry
  have h2 : min (PyData.list d).depth (PyData.list e).depth ≤ (PyData.list d).depth := Nat.min_le_left _ _
  exact (c.rc r1 r2 (by omega)).2 X.prog X.w X.xe _ ⟨.bl _, H, I, rfl, q⟩
/-- in, ==, != of data of one make -/
def dInC : D2 := fun x y G R => ∃ t ts, Rdd G x t ∧ Rdd G y (.list ts) ∧ (∀ e ∈ ts, Cm e t) ∧ (∀ e ∈ ts, ∀ e' ∈ ts, Cm e e') ∧ t.depth ≤ 60 ∧ R (.bl (ts.any fun u => PyData.eqv u t)) G
def dEqC : D2 := fun x y G R => ∃ ts us, Rdd G x (.list ts) ∧ Rdd G y (.list us) ∧ CmL ts us ∧ (PyData.list ts).depth ≤ 60 ∧ R (.bl (PyData.eqvAll ts us)) G
def dNeC : D2 := fun x y G R => ∃ ts us, Rdd G x (.list ts) ∧ Rdd G y (.list us) ∧ CmL ts us ∧ (PyData.list ts).depth ≤ 60 ∧ R (.bl (!PyData.eqvAll ts us)) G
theorem od_inC (hu : X.A.units + 65 < cLine) : OD X (compareOp .In) dInC := ⟨_, op_inC hu, fun T x y H d e G R Q hr rx ry q cr => by
  obtain ⟨t, ts, h1, h2, h3, h4, h5, q⟩ := q
  exact ⟨t, ts, h1.dp hr rx, h2.dp hr ry, h3, h4, h5, cr _ _ _ _ (Up.refl H) hr (.bl _) q⟩⟩
theorem od_eqC (hu : X.A.units + 64 < cLine) : OD X (compareOp .Eq) dEqC := ⟨_, op_eqC hu, fun T x y H d e G R Q hr rx ry q cr => by
  obtain ⟨t, ts, h1, h2, h3, h4, q⟩ := q
  exact ⟨t, ts, h1.dp hr rx, h2.dp hr ry, h3, h4, cr _ _ _ _ (Up.refl H) hr (.bl _) q⟩⟩
theorem od_neC (hu : X.A.units + 64 < cLine) : OD X (compareOp .NotEq) dNeC := ⟨_, op_neC hu, fun T x y H d e G R Q hr rx ry q cr => by
  obtain ⟨t, ts, h1, h2, h3, h4, q⟩ := q
  exact ⟨t, ts, h1.dp hr rx, h2.dp hr ry, h3, h4, cr _ _ _ _ (Up.refl H) hr (.bl _) q⟩⟩
end
theorem cmL_map {α β : Type} {f : α → PyData} {g : β → PyData} (h : ∀ a b, Cm (f a) (g b)) : ∀ (l : List α) (m : List β), CmL (l.map f) (m.map g)
  | [], m => .l _
  | _ :: _, [] => .r _
  | a :: l, b :: m => .c (h a b) (cmL_map h l m)
end Cc
/-! ### isinstance with two types; reverse -/
namespace Cc
open PySem PySem.Spec PyProof.Rows L2
section
variable {X : Cx} {E : EK}
/-- isinstance(x, (a, b)) -/
def dIsi2 (a b : String) (da : DE) : DE := fun δ G R EX => da δ G (fun x G1 => ∃ t p q, tyD G1 x = some t ∧ kitB t a = some p ∧ kitB t b = some q ∧ R (.bl (p || q)) G1) EX
theorem kitAny2 {K : PySem.W.Frag} {t a b : String} {p q : Bool} (h : kitB t a = some p) (h2 : kitB t b = some q) : PySem.W.kitAny K (.type t) [.type a, .type b] = some (p || q) := by
  refine kitAny_cons (kit_ty h) (fun e => ?_) (fun e => by rw [e]; rfl)
  subst e
  refine kitAny_cons (kit_ty h2) (fun e => ?_) (fun e => by rw [e]; rfl)
  subst e
  exact kitAny_nil
theorem pd_isi2 {a b : String} {na nb : Str} {e : Expr} {da : DE} {p q1 q2 q3 pos : Pos} {c} (hm : X.mg "isinstance" = none) (hma : X.mg na = none) (hmb : X.mg nb = none) (he : PD X E e da) (ea : bootBuiltins na = some (.type a) := by decide +kernel) (eb : bootBuiltins nb = some (.type b) := by decide +kernel)
    (na1 : na ≠ "__name__" := by decide) (na2 : (na == ("__debug__" : Str)) = false := by decide) (nb1 : nb ≠ "__name__" := by decide) (nb2 : (nb == ("__debug__" : Str)) = false := by decide)
    (hg : Gl X "isinstance" := by rfl) (hga : Gl X na := by rfl) (hgb : Gl X nb := by rfl) (hs1 : starEach [e, .Tuple [.Name na q1, .Name nb q2] c q3] X.env = (false, eval e X.env) :: starEach [.Tuple [.Name na q1, .Name nb q2] c q3] X.env := by rfl)
    (hpl : (backTo pos (starEach [.Tuple [.Name na q1, .Name nb q2] c q3] X.env)).any (·.1) = false := by rfl) :
    PD X E (.Call (.Name "isinstance" p) [e, .Tuple [.Name na q1, .Name nb q2] c q3] [] pos) (dIsi2 a b da) :=
  ⟨imE (pe_callB call_isiT hg hm (by decide +kernel) (pa_cons he.pe (pa_cons (pe_tup (pa_cons (pe_bltn (v := .ty a) hga hma ea rfl na1 na2) (pa_cons (pe_bltn (v := .ty b) hgb hmb eb rfl nb1 nb2) pa_nil))) pa_nil) (hs := hs1)) (he := hs1) (hpl := hpl)) fun σ H Q ⟨δ, G, R, EX, sr, hr, h, cr, cx⟩ => ⟨δ, G, _, EX, sr, hr, h, fun v H1 x G1 u1 h1 r1 ⟨t, p, q, e1, e2, e3, q1⟩ =>
    ⟨by show (2 : Nat) ≤ sizeLine; rw [sizeLine_eq]; decide, fun y hy => ⟨v, y, [.ty a, .ty b], .type t, [.type a, .type b], p || q, rfl, upd_same, .cons (.ty a) (.cons (.ty b) .nil), tyX_of (h1.new0 hy) (r1.up (Up.new hy)) e1, kitAny2 e2 e3,
      cr _ _ _ _ (u1.trans (Up.new hy)) (h1.new0 hy) (.bl _) q1⟩⟩, cx⟩⟩
/-- xs.reverse() -/
def mRev : DM := fun x xs G R => match x, xs with
  | .ref a, [] => ∃ l, G a = some (.lst l) ∧ R .non (updD G a (.lst l.reverse))
  | _, _ => False
theorem DvL.reverse {K : KT} {H : Hp} : ∀ {v : List V} {d : List D}, DvL K H v d → DvL K H v.reverse d.reverse
  | _, _, .nil => .nil
  | _, _, .cons r t => by
    rw [List.reverse_cons, List.reverse_cons]
    exact (DvL.reverse t).append (.cons r .nil)
theorem md_rev : MD X "list.reverse" mRev := ⟨_, mt_reverse, fun T x xs H d ds G R Q hr r rs q cr => by
  unfold mRev at q
  split at q
  · cases r
    cases rs
    obtain ⟨l, e, q⟩ := q
    obtain ⟨ys, h1, h2⟩ := hr _ _ e
    have u : ∀ o, Up H (upd H _ o) := fun o => Up.put h1 trivial
    exact ⟨_, ys, rfl, rfl, h1, cr _ _ _ _ (u _) (hr.put (c := .lst _) h1 trivial ⟨_, upd_same, h2.reverse.up (u _)⟩) .non q⟩
  · exact False.elim q⟩
end
end Cc
/-! ### list(range(n)) -/
namespace Cc
open PySem PySem.Spec PyProof.Rows L2
section
variable {X : Cx} {E : EK} {a : Expr} {da : DE}
/-- a new list that nobody changes -/
def dListRg (da : DE) : DE := fun δ G R EX => da δ G (fun d G1 => match d with
  | .int n => (0 ≤ n ∧ n ≤ 100000) ∧ R (.rol (rangeD 0 n.toNat)) G1
  | _ => False) EX
theorem dvL_rg {K : KT} {H : Hp} (k : Nat) : DvL K H ((List.range k).map fun i => V.int (0 + (i : Nat))) (rangeD 0 k) := by
  unfold rangeD
  induction List.range k with
  | nil => exact .nil
  | cons x xs ih => exact .cons (.int _) ih
theorem pd_listRg {p1 p2 p3 p4 : Pos} (hm : X.mg "list" = none) (hm2 : X.mg "range" = none) (ha : PD X E a da) (hc : X.calm = true := by rfl) (hg : Gl X "list" := by rfl) (hg2 : Gl X "range" := by rfl)
    (na : starEach [a] X.env = (false, eval a X.env) :: starEach [] X.env := by rfl) (na2 : starEach [Expr.Call (.Name "range" p1) [a] [] p2] X.env = (false, eval (Expr.Call (.Name "range" p1) [a] [] p2) X.env) :: starEach [] X.env := by rfl) :
    PD X E (.Call (.Name "list" p3) [.Call (.Name "range" p1) [a] [] p2] [] p4) (dListRg da) :=
  ⟨imE (pe_frz (pe_listRg hc hg hm (prg_1 hg2 hm2 ha.pe na) na2)) fun σ H Q ⟨δ, G, R, EX, sr, hr, h, cr, cx⟩ => ⟨δ, G, _, EX, sr, hr, h, fun v H1 x G1 u1 h1 r1 q => by
    cases r1 with
    | int n =>
      obtain ⟨⟨n0, n1⟩, q⟩ := q
      refine ⟨n, rfl, RgOk.of_le (by omega) (by omega) (by omega) (by omega), fun p hp => ?_⟩
      have e : rgV 0 n = (List.range n.toNat).map fun i => V.int (0 + (i : Nat)) := by
        unfold rgV
        rw [show (n - 0).toNat = n.toNat by omega]
      rw [e]
      exact clo_fz cr _ _ _ _ (u1.trans (Up.new hp)) (h1.new (c := .lst (rangeD 0 n.toNat)) hp ⟨_, upd_same, dvL_rg _⟩) (.ref p) (fzv_new q p (h1.none hp))
    | _ => exact False.elim q, cx⟩⟩
end
end Cc
/-! ### texts: split, str(int), int(text); lists repeated -/
namespace Cc
open PySem PySem.Spec PyProof.Rows L2
theorem dvL_of_strs {K : KT} {H : Hp} : ∀ zs : List Str, DvL K H (zs.map V.str) (zs.map D.str)
  | [] => .nil
  | z :: zs => .cons (.str z) (dvL_of_strs zs)
/-- x.split(sep), a list that may be changed -/
def dSplitR (da db : DE) : DE := fun δ G R EX => da δ G (fun x G1 => ∃ a, x = .str a ∧ db δ G1 (fun y G2 => ∃ b, y = .str b ∧ (b.length == 0) = false ∧ a.length + 2 ≤ sizeLine ∧ ∀ p, G2 p = none → R (.ref p) (updD G2 p (.lst ((Txt.split a b).map .str)))) EX) EX
/-- .. that nobody changes -/
def dSplitF (da db : DE) : DE := fun δ G R EX => da δ G (fun x G1 => ∃ a, x = .str a ∧ db δ G1 (fun y G2 => ∃ b, y = .str b ∧ (b.length == 0) = false ∧ a.length + 2 ≤ sizeLine ∧ R (.rol ((Txt.split a b).map .str)) G2) EX) EX
section
variable {X : Cx} {E : EK} {a b : Expr} {da db : DE} {apos pos : Pos}
theorem pd_splitR (ha : PD X E a da) (hb : PD X E b db) (hs : starEach [b] X.env = [(false, eval b X.env)] := by rfl) (hbase : attributeBase a "split" X.env (eval a X.env) = eval a X.env := by rfl) (hline : (apos.endLine == pos.line) = true := by rfl) :
    PD X E (.Call (.Attribute a "split" apos) [b] [] pos) (dSplitR da db) :=
  ⟨imE (pe_split ha.pe hb.pe hs hbase hline) fun σ H Q ⟨δ, G, R, EX, sr, hr, h, cr, cx⟩ => ⟨δ, G, _, EX, sr, hr, h, fun v H1 x G1 u1 h1 r1 ⟨a, e1, q1⟩ => by
    subst e1
    cases r1
    exact ⟨⟨a, rfl⟩, δ, G1, _, EX, sr.up u1, h1, q1, fun w H2 y G2 u2 h2 r2 ⟨b, e2, hb, hz, q⟩ => by
      subst e2
      cases r2
      exact ⟨a, b, rfl, rfl, hb, hz, fun p hp => cr _ _ _ _ ((u1.trans u2).trans (Up.new hp)) (h2.new (c := .lst _) hp ⟨_, upd_same, dvL_of_strs _⟩) (.ref p) (q p (h2.none hp))⟩, cx.up u1⟩, cx⟩⟩
theorem pd_splitF (ha : PD X E a da) (hb : PD X E b db) (hs : starEach [b] X.env = [(false, eval b X.env)] := by rfl) (hbase : attributeBase a "split" X.env (eval a X.env) = eval a X.env := by rfl) (hline : (apos.endLine == pos.line) = true := by rfl) :
    PD X E (.Call (.Attribute a "split" apos) [b] [] pos) (dSplitF da db) :=
  ⟨imE (pe_frz (pe_split ha.pe hb.pe hs hbase hline)) fun σ H Q ⟨δ, G, R, EX, sr, hr, h, cr, cx⟩ => ⟨δ, G, _, EX, sr, hr, h, fun v H1 x G1 u1 h1 r1 ⟨a, e1, q1⟩ => by
    subst e1
    cases r1
    exact ⟨⟨a, rfl⟩, δ, G1, _, EX, sr.up u1, h1, q1, fun w H2 y G2 u2 h2 r2 ⟨b, e2, hb, hz, q⟩ => by
      subst e2
      cases r2
      exact ⟨a, b, rfl, rfl, hb, hz, fun p hp => clo_fz cr _ _ _ _ ((u1.trans u2).trans (Up.new hp)) (h2.new (c := .lst ((Txt.split a b).map .str)) hp ⟨_, upd_same, dvL_of_strs _⟩) (.ref p) (fzv_new q p (h2.none hp))⟩, cx.up u1⟩, cx⟩⟩
/-- str(a number) -/
def dStrI : DC := fun xs G R => match xs with
  | [.int i] => i.natAbs.log2 < 1920 ∧ R (.str (Str.ofString (toString i))) G
  | _ => False
theorem cd_strI : CD X (.type "str") dStrI := ⟨_, call_str_int, fun T x H d G R Q hr r q cr => by
  unfold dStrI at q
  split at q
  · cases r with
    | cons r1 r2 =>
      cases r1
      cases r2
      exact ⟨_, rfl, q.1, cr _ _ _ _ (Up.refl H) hr (.str _) q.2⟩
  · exact q.elim⟩
/-- int(a text) -/
def dIntS : DC := fun xs G R => match xs with
  | [.str a] => ∃ n, PySem.intText? a = some n ∧ a.length ≤ 640 ∧ R (.int n) G
  | _ => False
theorem cd_intS : CD X (.type "int") dIntS := ⟨_, call_int_str, fun T x H d G R Q hr r q cr => by
  unfold dIntS at q
  split at q
  · cases r with
    | cons r1 r2 =>
      cases r1
      cases r2
      obtain ⟨n, e, hl, q⟩ := q
      exact ⟨_, n, rfl, e, hl, cr _ _ _ _ (Up.refl H) hr (.int _) q⟩
  · exact q.elim⟩
/-- [x, ..] * n -/
def dRepL (dl : DA) (de : DE) : DE := fun δ G R EX => dl δ G (fun xs G1 => xs.length ≤ sizeLine ∧ ∀ p, G1 p = none → de δ (updD G1 p (.lst xs)) (fun d G2 => ∃ k : Int, d = .int k ∧ G2 p = some (.lst xs) ∧ -(2 ^ 63) ≤ k ∧ k < 2 ^ 63 ∧ xs.length * k.toNat ≤ sizeLine ∧ R (.rol (List.replicate k.toNat xs).flatten) G2) EX) EX
theorem dvL_flat {K : KT} {H : Hp} {xs : List V} {ds : List D} (h : DvL K H xs ds) : ∀ n, DvL K H (List.replicate n xs).flatten (List.replicate n ds).flatten
  | 0 => .nil
  | n + 1 => by
    rw [List.replicate_succ, List.replicate_succ, List.flatten_cons, List.flatten_cons]
    exact h.append (dvL_flat h n)
end
end Cc
/-! ### set(a list of numbers), sorted again -/
namespace L2
open PySem PySem.Spec PyProof.Rows
def bareSet (w : World) : Obj := { cls := .type "set", dict := none, data := .set #[] 0 (.fresh 0 0 (!w.params.followText "set-order")) }
section
variable {P : Program} {w : World} {A : Around} {E : Value → Shared → Prop} {s : Shared}
/-- an empty set is filled by a list's numbers -/
theorem fill_listI {S l : Addr} {its : Array Value} {ns : List Int} {Q : Value → Shared → Prop} (hh : A.handled = none) (hS : s.heap.get? S = some (bareSet w)) (hR : SetR w s.heap S (fun _ => false) 0) (hl : s.heap.IsList l its) (hi : IntsAre its.toList ns) (few : ns.length + 1 < scanBound) (ne : S ≠ l)
    (q : ∀ h' tk c, SetR w h' S (fun j => decide (j ∈ ns)) c → c ≤ ns.length → (∀ b o, b ≠ S → s.heap.get? b = some o → h'.get? b = some o) → Q .none { s with heap := h', toks := tk }) :
    codeAny (model P w) A (.call (.builtin "set.__init__") ⟨[.ref S, .ref l], []⟩) (wants Q E) s := by
  have sz : its.size = ns.length := by rw [← Array.length_toList, IntsAre.length hi]
  have ty : Shared.TypeIs s (.ref S) "set" := ⟨_, hS, rfl⟩
  refine codeAny_call_builtin F.called_set.init.plain F.entry_set_init (check_set_init_1 ty ?_)
  have hl0 := hl
  obtain ⟨ol, e0, ec, nl, ed⟩ := hl0
  obtain ⟨oc, od, dt, sl⟩ := ol
  simp only at ec ed
  subst ec ed
  have z1 := F.sub_list_set
  have z2 := F.sub_list_frozenset
  have z3 : (Value.type "list" == Value.type "dict") = false := by decide
  unfold Builtin.«set.__init__» noKeywords Builtin.Frozenset.updateFrom
  generalize hp : pyIter = PI
  wp_walk
  subst hp
  refine wpAny_pyIter_list hl ?_
  refine wpAny_bind (wpAny_runValue ?_)
  have hh3 : A.in1.in1.handled = none := by simp [hh]
  have lS : S < s.heap.objs.size := Heap.lt_size hS
  have ll : l < s.heap.objs.size := Heap.lt_size e0
  have nl : l ≠ s.heap.objs.size := Nat.ne_of_lt ll
  have off : S ∉ [s.heap.objs.size, l] := by
    intro z
    rcases List.mem_cons.mp z with z | z
    · exact absurd z (Nat.ne_of_lt lS)
    · exact ne (List.mem_singleton.mp z)
  have val : ∀ (i : Nat) (v : Value), its[i]? = some v → ∃ k t, ns[i]? = some k ∧ v = .int k t := fun i v hv => by
    have lt : i < ns.length := by rw [← sz]; exact (Array.getElem?_eq_some_iff.mp hv).1
    obtain ⟨t, e⟩ := PyProof.Rows.IntsAre.int_at hi i v (by rw [Array.getElem?_toList]; exact hv)
    exact ⟨ns[i], t, List.getElem?_eq_getElem lt, by rw [e, List.getD_eq_getElem?_getD, List.getElem?_eq_getElem lt] <;> rfl⟩
  refine set_update_ints ((Walks.list hh3 _ l nl its).toS) S off ns sz few val (its.size - 0) 0 _ (by omega) (Nat.zero_le _) ⟨⟨_, Heap.get?_push_size _ rfl, rfl, rfl⟩, hl.push _⟩ ⟨0, Nat.le_refl 0, ?_⟩ fun s2 c mv hc hS2 => ?_
  · refine (hR.at fun o e => Heap.get?_push_of_some _ e).congr fun k => ?_
    simp
  · obtain ⟨h2, g2, d2, t2, o2⟩ := s2
    have eg : g2 = s.gens := mv.gens
    have ed : d2 = s.drawn := mv.drawn
    have eo : o2 = s.os := mv.os
    subst eg ed eo
    refine wpAny_pure (wpAny_pure ?_)
    refine q h2 t2 c hS2 (by rw [sz] at hc; exact hc) fun b o nb e => ?_
    have nI : b ≠ s.heap.objs.size := Nat.ne_of_lt (Heap.lt_size e)
    exact mv.heap b o (by
      intro z
      rcases List.mem_cons.mp z with z | z
      · exact nb z
      · exact nI (List.mem_singleton.mp z)) (Heap.get?_push_of_some _ e)
/-- set(a list of numbers) -/
theorem set_listI {l : Addr} {its : Array Value} {ns : List Int} {Q : Value → Shared → Prop} (hh : A.handled = none) (hl : s.heap.IsList l its) (hi : IntsAre its.toList ns) (few : ns.length + 1 < scanBound)
    (q : ∀ h' tk c, SetR w h' s.heap.objs.size (fun j => decide (j ∈ ns)) c → c ≤ ns.length → (∀ b o, s.heap.get? b = some o → h'.get? b = some o) → Q (.ref s.heap.objs.size) { s with heap := h', toks := tk }) :
    wpAny (model P w) A (call (.type "set") [.ref l]) Q E s := by
  have lt : l < s.heap.objs.size := by
    obtain ⟨o, e, _⟩ := hl
    exact Heap.lt_size e
  obtain ⟨mc, mt, kmro⟩ := F.called_set.mro
  have k1 := F.called_set.made
  have k2 := F.called_set.sub
  have k3 := F.called_set.notType
  have k4 := F.called_set.canCreate
  have k5 := F.typeCall_set_1 (.ref l)
  refine wpAny_call (codeAny_of_tree ?_)
  show wpAny _ _ (callAny (.type "set") _) _ _ _
  refine wpAny_pure ⟨Code.quiet_builtin _ (by decide +kernel), codeAny_builtin F.entry_type_call ?_⟩
  rw [Around.under_plain (weight_type_call_type "set" [.ref l] []) rfl]
  repeat (any_goals (first | assumption | wp_step))
  refine codeAny_mono (code_set_led1 (.ref l) (E := E) (Q₁ := fun o s1 => o = .ref s.heap.objs.size ∧ s1 = { s with heap := s.heap.push (bareSet w) }) ⟨rfl, rfl⟩) fun r s1 hr => ?_
  cases r with
  | error e => exact hr
  | ok fl =>
    cases fl with
    | ret o =>
      obtain ⟨rfl, rfl⟩ := hr
      have hS : (s.heap.push (bareSet w)).get? s.heap.objs.size = some (bareSet w) := Heap.get?_push_size _ rfl
      have ty : Shared.TypeIs { s with heap := s.heap.push (bareSet w) } (.ref s.heap.objs.size) "set" := ⟨_, hS, rfl⟩
      have b1 := F.called_set.init.lookup
      have b2 := F.called_set.init.bind (.ref s.heap.objs.size)
      repeat (any_goals (first | assumption | wp_step))
      refine codeAny_mono (fill_listI (P := P) (A := A.in1) (E := E) (s := { s with heap := s.heap.push (bareSet w) }) (Q := fun r s2 => r = .none ∧ ∃ h' tk c, s2 = { s with heap := h', toks := tk } ∧ SetR w h' s.heap.objs.size (fun j => decide (j ∈ ns)) c ∧ c ≤ ns.length ∧ ∀ b o, s.heap.get? b = some o → h'.get? b = some o)
        (by simp [hh]) hS (setR_fresh w) (hl.push _) hi few (Ne.symm (Nat.ne_of_lt lt)) fun h' tk c k1 k2 k3 => ⟨rfl, h', tk, c, rfl, k1, k2, fun b o e => k3 b o (Nat.ne_of_lt (Heap.lt_size e)) (Heap.get?_push_of_some _ e)⟩) fun r2 s2 hr2 => ?_
      cases r2 with
      | error e => exact hr2
      | ok f2 =>
        cases f2 with
        | ret r =>
          obtain ⟨rfl, h', tk, c, rfl, k1, k2, k3⟩ := hr2
          repeat (any_goals (first | assumption | wp_step))
          exact q h' tk c k1 k2 k3
        | _ => exact hr2.elim
    | _ => exact hr.elim
end
end L2
/-! ### sorted(set(numbers)) -/
namespace Cc
open PySem PySem.Spec PyProof.Rows L2
section
variable {X : Cx}
def rSetLI (K : PySem.W.Frag) (w : World) : List V → Hp → VK → Prop := fun xs H Q => ∃ (l : Addr) (ns : List Int), xs = [V.ref l] ∧ SqL K H l (ns.map V.int) ∧ ns.length ≤ 1000 ∧
  ∀ p c, H p = none → c ≤ ns.length → Q (.ref p) (upd H p (SetO w p (fun j => decide (j ∈ ns)) c))
theorem cr_setLI (hc : X.calm = true) : CallR X (.type "set") (rSetLI X.K X.w) := by
  intro pins s σ H xs us Q I r h
  obtain ⟨l, ns, rfl, hs, hn, q⟩ := h
  rw [Vals.ref1 r]
  obtain ⟨its, rv, il, hlen⟩ := I.list hs
  refine set_listI (its := its.toArray) (ns := ns) (I.ok.hd hc) il.isList (by simpa using ints_of_vals rv) (by unfold scanBound; omega) fun h' tk c k1 k2 k3 => ?_
  exact ⟨.ref s.heap.objs.size, upd H s.heap.objs.size (SetO X.w s.heap.objs.size (fun j => decide (j ∈ ns)) c), I.laid k3 (Nat.le_refl _) (setO_new k1), rfl, q _ c I.fresh k2⟩
def rSetTI (K : PySem.W.Frag) (w : World) : List V → Hp → VK → Prop := fun xs H Q => ∃ (l : Addr) (ns : List Int), xs = [V.ref l] ∧ SqT K H l (ns.map V.int) ∧ ns.length ≤ 1000 ∧
  ∀ p c, H p = none → c ≤ ns.length → Q (.ref p) (upd H p (SetO w p (fun j => decide (j ∈ ns)) c))
theorem cr_setTI (hc : X.calm = true) : CallR X (.type "set") (rSetTI X.K X.w) := by
  intro pins s σ H xs us Q I r h
  obtain ⟨l, ns, rfl, hs, hn, q⟩ := h
  rw [Vals.ref1 r]
  obtain ⟨its, rv, pl, hz⟩ := I.tuple hs
  refine call_set_tupI (items := its.toArray) ns (I.ok.hd hc) pl (by simpa using ints_of_vals rv) (by unfold scanBound; omega) fun h' tk c k1 k2 k3 => ?_
  exact ⟨.ref s.heap.objs.size, upd H s.heap.objs.size (SetO X.w s.heap.objs.size (fun j => decide (j ∈ ns)) c), I.laid k3 (Nat.le_refl _) (setO_new k1), rfl, q _ c I.fresh k2⟩
/-- numbers as a list or a tuple -/
theorem dvL_intsB {K : KT} {H : Hp} : ∀ {xs : List V} {ns : List Int}, DvL K H xs (ns.map D.int) → xs = ns.map V.int
  | _, [], h => by cases h; rfl
  | _, n :: ns, h => by
    cases h with
    | cons h t => cases h; rw [List.map_cons, ← dvL_intsB t]
def dSortSetL (da : DE) : DE := fun δ G R EX => da δ G (fun x G1 => ∃ ns : List Int, x = .rol (ns.map .int) ∧ ns.length < 64 ∧ ∀ qs : List Int, qs.Pairwise (· < ·) → (∀ k, k ∈ qs ↔ k ∈ ns) → R (.rol (qs.map .int)) G1) EX
def dSortSetTu (da : DE) : DE := fun δ G R EX => da δ G (fun x G1 => ∃ ns : List Int, x.tl = some (ns.map .int) ∧ ns.length < 64 ∧ ∀ qs : List Int, qs.Pairwise (· < ·) → (∀ k, k ∈ qs ↔ k ∈ ns) → R (.rol (qs.map .int)) G1) EX
variable {E : EK} {a : Expr} {da : DE}
theorem pd_sortSetL {p p2 q pos : Pos} (hm : X.mg "sorted" = none) (hm2 : X.mg "set" = none) (ha : PD X E a da) (hc : X.calm = true := by rfl) (hg : Gl X "sorted" := by rfl) (hg2 : Gl X "set" := by rfl)
    (na : starEach [a] X.env = (false, eval a X.env) :: starEach [] X.env := by rfl) (na2 : starEach [Expr.Call (.Name "set" p2) [a] [] q] X.env = (false, eval (Expr.Call (.Name "set" p2) [a] [] q) X.env) :: starEach [] X.env := by rfl) : PD X E (.Call (.Name "sorted" p) [.Call (.Name "set" p2) [a] [] q] [] pos) (dSortSetL da) :=
  ⟨imE (pe_frz (pe_callB (cr_sortedSet hc) hg hm (by decide +kernel) (pa_cons (pe_callTy (cr_setLI hc) hg2 hm2 (by decide +kernel) (pa_cons ha.pe pa_nil (hs := na)) (he := na)) pa_nil (hs := na2)) (he := na2))) fun σ H Q ⟨δ, G, R, EX, sr, hr, h, cr, cx⟩ => ⟨δ, G, _, EX, sr, hr, h, fun v H1 x G1 u1 h1 r1 ⟨ns, e1, hl, q1⟩ => by
    subst e1
    cases r1 with
    | rol hq hdl =>
      rw [dvL_intsB hdl] at hq
      refine ⟨_, ns, rfl, hq.sqL, by omega, fun b c hb hcl => ⟨b, _, c, rfl, upd_same, by omega, fun qs y hs hm hl2 hy => ?_⟩⟩
      have ub := Up.new (o := SetO X.w b (fun j => decide (j ∈ ns)) c) hb
      exact clo_fz cr _ _ _ _ ((u1.trans ub).trans (Up.new hy)) ((h1.new0 hb).new (c := .lst (qs.map D.int)) hy ⟨_, upd_same, dvL_ints _⟩) (.ref y) (fzv_new (q1 qs hs fun k => by rw [hm k, decide_eq_true_iff]) y ((h1.new0 hb).none hy)), cx⟩⟩
theorem pd_sortSetTu {p p2 q pos : Pos} (hm : X.mg "sorted" = none) (hm2 : X.mg "set" = none) (ha : PD X E a da) (hc : X.calm = true := by rfl) (hg : Gl X "sorted" := by rfl) (hg2 : Gl X "set" := by rfl)
    (na : starEach [a] X.env = (false, eval a X.env) :: starEach [] X.env := by rfl) (na2 : starEach [Expr.Call (.Name "set" p2) [a] [] q] X.env = (false, eval (Expr.Call (.Name "set" p2) [a] [] q) X.env) :: starEach [] X.env := by rfl) : PD X E (.Call (.Name "sorted" p) [.Call (.Name "set" p2) [a] [] q] [] pos) (dSortSetTu da) :=
  ⟨imE (pe_frz (pe_callB (cr_sortedSet hc) hg hm (by decide +kernel) (pa_cons (pe_callTy (cr_setTI hc) hg2 hm2 (by decide +kernel) (pa_cons ha.pe pa_nil (hs := na)) (he := na)) pa_nil (hs := na2)) (he := na2))) fun σ H Q ⟨δ, G, R, EX, sr, hr, h, cr, cx⟩ => ⟨δ, G, _, EX, sr, hr, h, fun v H1 x G1 u1 h1 r1 ⟨ns, e1, hl, q1⟩ => by
    obtain ⟨y0, xs, rfl, hq, hdl⟩ := r1.sqT e1
    rw [dvL_intsB hdl] at hq
    refine ⟨_, ns, rfl, hq, by omega, fun b c hb hcl => ⟨b, _, c, rfl, upd_same, by omega, fun qs y hs hm hl2 hy => ?_⟩⟩
    have ub := Up.new (o := SetO X.w b (fun j => decide (j ∈ ns)) c) hb
    exact clo_fz cr _ _ _ _ ((u1.trans ub).trans (Up.new hy)) ((h1.new0 hb).new (c := .lst (qs.map D.int)) hy ⟨_, upd_same, dvL_ints _⟩) (.ref y) (fzv_new (q1 qs hs fun k => by rw [hm k, decide_eq_true_iff]) y ((h1.new0 hb).none hy)), cx⟩⟩
variable {es : List Expr} {b : Expr} {dl : DA} {db : DE} {p1 pos : Pos}
theorem pd_repL (h : PDA X E es dl) (he : PD X E b db) : PD X E (.BinOp (.List es p1) .Mult b pos) (dRepL dl db) :=
  ⟨imE (pe_frz (pe_op op_rep (pe_lst h.pa) he.pe)) fun σ H Q ⟨δ, G, R, EX, sr, hr, h, cr, cx⟩ => ⟨δ, G, _, EX, sr, hr, h, fun xs H1 l G1 u1 h1 r1 ⟨z, q1⟩ => ⟨by rw [r1.length]; exact z, fun p hp => by
    have up := Up.new (o := HO.lst xs) hp
    exact ⟨δ, updD G1 p (.lst l), _, EX, sr.up (u1.trans up), h1.new (c := .lst l) hp ⟨xs, upd_same, r1.up up⟩, q1 p (h1.none hp), fun y H2 d G2 u2 h2 r2 ⟨k, e, eg, k0, k1, hz, q⟩ => by
      subst e
      cases r2
      obtain ⟨ys, ey, ry⟩ := h2 _ _ eg
      exact ⟨p, k, ys, rfl, rfl, ey, k0, k1, by rw [ry.length]; exact hz, fun w hw => clo_fz cr _ _ _ _ (((u1.trans up).trans u2).trans (Up.new hw)) (h2.new (c := .lst (List.replicate k.toNat l).flatten) hw ⟨_, upd_same, (dvL_flat ry _).up (Up.new hw)⟩) (.ref w) (fzv_new q w (h2.none hw))⟩, cx.up (u1.trans up)⟩⟩, cx⟩⟩
end
end Cc
/-! ### errors with a field: Base.__init__(self, ..) of an own base -/
namespace L2
open PySem PySem.Spec PyProof.Rows
section
variable {X : Cx} {e : Expr} {es : List Expr} {ta : TA} {p1 p2 pos : Pos} {x : Str} {B : Addr} {mc : Value}
theorem pe_ownVe {pl : Sem Bool} (hg : Gl X x) (hm : X.mg x = some (.ref B)) (hk : PySem.W.keepIn X.K (.ref B) = true) (r : ClX.CRead X.K B mc) (hf : PySem.W.findCls X.K (.ref B) mc "__init__" = some (.val (.builtin "ValueError.__init__"))) (ha : PA X (e :: es) ta)
    (hdb : (x == ("__debug__" : Str)) = false := by decide)
    (hc : eval (.Call (.Attribute (.Name x p1) "__init__" p2) (e :: es) [] pos) X.env = (do
      let v ← eval (.Name x p1) X.env
      standAt p2.atName
      let (f, first) ← holding [v] (getMethod v "__init__" pl)
      callWith pos f first (backTo pos (starEach (e :: es) X.env)) (backToKw pos (keywordEach [] X.env))) := by rfl)
    (he : starEach (e :: es) X.env = (false, eval e X.env) :: starEach es X.env := by rfl) (hpl : (backTo pos (starEach es X.env)).any (·.1) = false := by rfl) :
    PE X (.Call (.Attribute (.Name x p1) "__init__" p2) (e :: es) [] pos) (tVeI X.K ta) := by
  refine ⟨fun pins s σ H Q I h => ?_⟩
  refine PySem.W.methodCall_KW (ld_glob I hg hm ?_ hdb) hc
  refine PySem.W.method_cls I.kIn r.ga (PySem.W.cls_value I.kIn r.rd hf (by rfl) ?_)
  show wpAny _ _ (callWith pos (Value.builtin "ValueError.__init__") [] (backTo pos (starEach (e :: es) X.env)) []) _ _ _
  refine PyProof.Rows.callWith_method1 (thn (ha.run pos pins _ σ H _ (I.tok _) h) fun us s1 ⟨vs, H1, I1, r1, a, C, ws, ev, hl, T, ea, q⟩ => ?_) he hpl
  subst ev
  cases r1 with
  | @cons _ u0 _ ur ra rw' =>
    obtain rfl : u0 = Value.ref a := ra
    exact oinit_ok T I1 ea (by rw [← Paired.length rw', sizeLine_eq]; omega) fun s' J => ⟨.non, H1, J, rfl, q⟩
end
end L2
/-! ### errors with a field: raised -/
namespace L2
open PySem PySem.Spec PyProof.Rows
/-- what stands when C(e, ..) is made: the error itself set apart, its dict as an error's dict -/
theorem mkN_end {X : Cx} {pins : List (Addr × Obj)} {σ : St} {Ha Hb : Hp} {Q : XK} {ha hm hb : Heap} {ga gb : Array GenState} {da db : Drawn} {ta tb : Nat} {oa ob : OsState} {a C d : Addr} {fs : List (Str × V)} (T : Raises X (.ref C)) (I : Inv X pins σ Ha ⟨ha, ga, da, ta, oa⟩)
    (la : ha.objs.size ≤ a) (kp : ∀ b o, ha.get? b = some o → hm.get? b = some o) (un : Un (frs X.stack) [] (upd Ha a (exo a C none)) Hb hm hb) (ok : HOk X.prog X.w Hb hb) (eo : ob = oa) (br : AllBare gb)
    (ea : Hb a = some (exo a C (some d))) (ed : Hb d = some (exd d fs)) (nd : Ha d = none) (q : Q (.ref C) (some d) (upd (del Hb a) d (.xd fs))) : L2N.MkP X pins σ Q (.ref a) ⟨hb, gb, db, tb, ob⟩ := by
  obtain ⟨t0, G, J, kG, ge, hoe, na⟩ := mk_end0 (d2 := db) (t2 := tb) I la kp un ok eo br ea ed nd
  refine ⟨a, _, _, ⟨G, gb, db, tb, ob⟩, _, .ref C, some d, rfl, J, kG, ge, hoe, ⟨rfl, rfl, fun vs e => ?_⟩, rfl, rfl, na, rfl, br, T, q⟩
  cases e
  rfl
theorem pmkN_init {X : Cx} {CX : CXT} {e : Expr} {es : List Expr} {ta : TA} {x : Str} {C fI : Addr} {k : Nat} {fd : FuncData} {ps : List Str} {sp : Sp} {p pos : Pos} (T : OexC X.K C) (iC : PySem.W.findIn X.K (.ref C) "__init__" = some (some (.ref fI))) (tI : PySem.W.typeIn X.K (.ref fI) = some (.type "function"))
    (Fn : FnOk X.prog X.w X.K X.mg X.base CX k fI fd ps sp) (hr : Room (k + 1) X.A) (hb : Binds X.K fd ps []) (hx : Passes CX X (fun _ _ _ => False)) (hg : Gl X x) (hm : X.mg x = some (.ref C)) (ha : PA X (e :: es) ta)
    (hdb : (x == ("__debug__" : Str)) = false := by decide) (he : starEach (e :: es) X.env = (false, eval e X.env) :: starEach es X.env := by rfl) (hpl : (backTo pos (starEach es X.env)).any (·.1) = false := by rfl) :
    L2N.PMk X (.Call (.Name x p) (e :: es) [] pos) (tMkO C sp [] ta) := by
  intro pins s σ H Q I h
  obtain ⟨_, _, _, _, bm, _, _, _, _, _, _, _, _, _, _, hC, hbm⟩ := T.cls
  refine wpAny_Call_Name_kw (ld_glob I hg hm ?_ hdb)
  refine PySem.W.callWith_K (h₀ := X.base) I.ok.mod.kin T.kC (thn (ha.run pos pins s σ H _ I h) fun us s1 ⟨vs, H1, I1, r1, hz, q1⟩ => ⟨I1.kIn, ?_⟩) he hpl
  show wpAny _ _ (call (.ref C) us) _ _ _
  obtain ⟨m, g1, d1, t1, o1⟩ := s1
  generalize ea : m.objs.size + 1 = a
  have la : m.objs.size ≤ a := by omega
  have hn : H1 a = none := I1.hok.fresh la
  have spa := q1 a hn
  rw [List.append_nil] at spa
  have got : ((m.push (PySem.W.kdv_tup us)).push (PySem.HandSPX.excO C m.objs.size)).get? a = some (PySem.HandSPX.excO C m.objs.size) := by rw [← ea]; heap_get
  have J := I1.laid (t' := t1) (a := a) (o := exo a C none) (h' := (m.push (PySem.W.kdv_tup us)).push (PySem.HandSPX.excO C m.objs.size)) (fun b o z => Heap.get?_push_of_some _ (Heap.get?_push_of_some _ z)) la (exo_ok got)
  have rr : Vals (V.ref a :: vs) (Value.ref a :: us) := .cons rfl r1
  have hl : (Value.ref a :: us).length = ps.length := rr.length.symm.trans (Fn.len _ _ _ _ spa)
  have small : us.length ≤ sizeLine := by rw [← Paired.length r1, sizeLine_eq]; omega
  refine wpAny_call (PySem.HandSPX.call_own F.excBase_ValueError (fun Y => PySem.HandSPX.refsVE_contains Y bm hbm) (I1.kIn _ _ hC) (PySem.W.looks_findIn I1.kIn iC) (fun self => PySem.W.bind_fn I1.kIn self tI) small ?_)
  have bnd := hb _ (Value.ref a :: us) J.kIn (by rw [List.append_nil]; exact hl)
  have run := Fn.run _ X.stack _ _ ⟨Value.ref a :: us, []⟩ (Value.ref a :: us ++ []) _ _ (fun _ _ _ => False) (hr.make C us []) (J.env0.make C us []) bnd (by rw [List.append_nil]; exact rr) spa
  rw [← ea] at run
  refine codeAny_mono run fun r s' hr' => ?_
  cases r with
  | error er => exact hx pins σ _ _ er s' (ea ▸ J) hr'
  | ok fl =>
    cases fl with
    | ret u =>
      obtain ⟨v, H2, os2, bare2, un2, hok2, rv, ev, d, fs, e1, e2, e3, q2⟩ := hr'
      subst ev
      obtain ⟨h2, g2, d2, t2, o2⟩ := s'
      rw [ea] at un2 e1 q2 ⊢
      exact ⟨rv, mkN_end (raises_own T.exC T.tyC) I1 la (fun b o z => Heap.get?_push_of_some _ (Heap.get?_push_of_some _ z)) un2 hok2 os2 bare2 e1 e2 e3 q2⟩
    | next => exact False.elim hr'
    | brk => exact False.elim hr'
    | cont => exact False.elim hr'
end L2
namespace Cc
open PySem PySem.Spec PyProof.Rows L2
/-- C.__init__(self, y): one field -/
def spInit (C : Addr) (f : Str) : Sp := fun vs H Q _ => ∃ (a : Addr) (y : V), vs = [.ref a, y] ∧ H a = some (exo a C none) ∧ ∀ dx, H dx = none → dx ≠ a → Q .non (upd (upd H dx (exd dx [(f, y)])) a (exo a C (some dx)))
def sRaiseT (C : Addr) (f : Str) (da : DE) : DSt := fun D δ G => da δ G (fun x G1 => ∀ d, G1 d = none → D.ex (.ref C) (some d) (updD G1 d (.xd [(f, x)]))) D.ex
section
variable {X : Cx} {E : EK} {e : Expr} {da : DE} {x f : Str} {C fI : Addr} {k : Nat} {fd : FuncData} {ps : List Str} {p pos pos2 : Pos}
theorem pds_raiseT (T : OexC X.K C) (iC : PySem.W.findIn X.K (.ref C) "__init__" = some (some (.ref fI))) (tI : PySem.W.typeIn X.K (.ref fI) = some (.type "function"))
    (F1 : FnOk X.prog X.w X.K X.mg X.base (L2N.CX X.prog X.w) k fI fd ps (spInit C f)) (hr : Room (k + 1) X.A) (hb : Binds X.K fd ps []) (hm : X.mg x = some (.ref C)) (tk : L2N.Takes X (fun cls d _ H => E.1 cls d H)) (ha : PD X E e da) (hc : X.calm = true := by rfl) (hg : Gl X x := by rfl)
    (hdb : (x == ("__debug__" : Str)) = false := by decide) (he : starEach [e] X.env = (false, eval e X.env) :: starEach [] X.env := by rfl) (hpl : (backTo pos (starEach [] X.env)).any (·.1) = false := by rfl) : PDS X E (.Raise (some (.Call (.Name x p) [e] [] pos)) none pos2) (sRaiseT C f da) :=
  ⟨imS (L2N.ps_raise hc tk (pmkN_init T iC tI F1 hr hb passN hg hm (pa_cons ha.pe pa_nil he) hdb he hpl)) fun Dn σ H ⟨δ, G, DD, sr, hG, h, cn, ct, cb, cc, cx⟩ => ⟨δ, G, _, DD.ex, sr, hG, h, fun v H1 y G1 u1 h1 r1 q => by
    refine ⟨by simp, fun a hna => ⟨a, v, rfl, upd_same, fun d hd nd => ?_⟩⟩
    rw [upd_ne nd] at hd
    refine ⟨rfl, d, [(f, v)], upd_same, by rw [upd_ne nd]; exact upd_same, hd, ?_⟩
    have eh : upd (del (upd (upd (upd H1 a (exo a C none)) d (exd d [(f, v)])) a (exo a C (some d))) a) d (.xd [(f, v)]) = upd H1 d (.xd [(f, v)]) := by
      funext b
      by_cases hbd : b = d
      · rw [hbd, upd_same, upd_same]
      · rw [upd_ne hbd, upd_ne hbd]
        by_cases hba : b = a
        · rw [hba, del_same, hna]
        · rw [del_ne hba, upd_ne hba, upd_ne hbd, upd_ne hba]
    rw [eh]
    exact cx _ _ _ _ (u1.trans (Up.new hd)) (h1.new (c := .xd [(f, y)]) hd ⟨[(f, v)], upd_same, .cons ⟨rfl, r1.up (Up.new hd)⟩ .nil⟩) (q d (h1.none hd)), cx⟩⟩
end
end Cc
/-! ### k17: BadText's making -/
namespace K17
open PySem PySem.Spec PyProof.Rows L2 Cc
abbrev s_bt : Stmt := inClass (top 7) 0
abbrev N_bt : List Str := ["self", "row"]
theorem sc_bt : FnScope N_bt ["self", "row"] (defScope s_bt) := ⟨rfl, rfl, rfl, by decide +kernel, rfl, by decide +kernel, by decide +kernel⟩
theorem init_bt {P : Program} {w : World} {K : PySem.W.Frag} {mg : Str → Option Value} {base : Heap} {C B f : Addr} {fd : FuncData} {k : Nat} {mc : Value} (Fd : FunD K "__init__" "BadText.__init__" (defArgs s_bt) (defBody s_bt) (defScope s_bt) [] [] f fd) (T : OexC K C) (nr : PySem.W.findIn K (.ref C) "row" = some none)
    (hm : mg "CallError" = some (.ref B)) (hk : PySem.W.keepIn K (.ref B) = true) (r : ClX.CRead K B mc) (hf : PySem.W.findCls K (.ref B) mc "__init__" = some (.val (.builtin "ValueError.__init__"))) :
    FnOk P w K mg base (L2N.CX P w) (k + 1) f fd ["self", "row"] (spInit C "row") := by
  obtain ⟨oc, od, dV, kV, doc, pm, an, cdv, ct, osl, rfl, lk, hcd, _, _⟩ := Fd.ex
  refine fn_of lk hcd sc_bt (fun vs H Q E ⟨a, y, e, _⟩ => by rw [e]; rfl) fun A outer s H vs Q E hr ⟨a, y, e, ha, q⟩ => ?_
  subst e
  have nd : (N_bt).Nodup := sc_bt.nd
  refine ⟨_, pss_cons (ps_expr (pe_ownVe rfl hm hk r hf (pa_cons (pe_var (i := 0) rfl (Or.inl rfl)) (pa_cons (pe_var (i := 1) rfl (Or.inl rfl)) pa_nil)))) (pss_one (ps_ost (pe_var (i := 0) rfl (Or.inl rfl)) (pe_var (i := 1) rfl (Or.inl rfl)))), ?_⟩
  refine ⟨.ref a, rfl, y, rfl, a, C, [y], rfl, by simp, T, ha, ?_⟩
  exact ⟨y, rfl, .ref a, rfl, a, C, rfl, T, nr, .inl ⟨ha, fun dx h n => q dx h n⟩⟩
end K17
/-! ### loops over lists while an exception is handled -/
namespace Cc
open PySem PySem.Spec PyProof.Rows L2 HotX
section
variable {prog : Program} {w : World} {A : Around} {E : Value → Shared → Prop} {s : Shared}
/-- the walked list has ended: the StopIteration bears the handled exception as its context -/
theorem lstEnd_hot {k lo x1 : Addr} {n : Nat} {vs : Array Value} {Q : Option Value → Shared → Prop} (hot : HotAt A x1 s.heap) (nk : x1 ≠ k) (hk : s.heap.IsListIter k lo n) (hlo : s.heap.IsList lo vs) (no : vs[n]? = none)
    (q : ∀ h2, (∀ b o, b ≠ k → s.heap.get? b = some o → h2.get? b = some o) → Q none { s with heap := h2 }) : wpAny (model prog w) A (pyNext (.ref k)) Q E s := by
  obtain ⟨ok, gk, ck, dk⟩ := id hk
  obtain ⟨ol, gl, cl, m, dl⟩ := hlo
  obtain ⟨ha, o1, f1, g1, d1, c1⟩ := hot
  have hty := hk.typeIs
  unfold pyNext
  refine wpAny_bind (wpAny_attempt (wpAny_callSpecial?_slot (name := Str.ofString "__next__") hty slot_listiter_next (wpAny_call_entry slot_listiter_next hty entry_listiter_next ?_ (args_listiter_next _))))
  show wpAny _ _ (field (.ref k) 0 >>= _) _ _ s
  refine wpAny_bind (wpAny_field gk dk (x := .ref lo) rfl ?_)
  show wpAny _ _ (if (Value.ref lo == Value.none) = true then _ else _) _ _ s
  rw [if_neg (show ¬ ((Value.ref lo == Value.none) = true) from Bool.false_ne_true)]
  show wpAny _ _ (field (.ref k) 1 >>= _) _ _ s
  refine wpAny_bind (wpAny_field gk dk (x := .int n 0) rfl ?_)
  show wpAny _ _ (seqItems? (.ref lo) >>= _) _ _ s
  refine wpAny_bind (wpAny_seqItems gl dl ?_)
  simp only [Int.toNat_natCast, no]
  refine wpAny_bind (wpAny_rule (wpAny_bind (wpAny_setField gk dk (by simp) ?_)))
  show wpAny _ _ (newExc (.type "StopIteration") [] >>= _) _ _ _
  refine wpAny_bind ?_
  simp only [newExc, newTuple]
  refine wpAny_bind (wpAny_newObj_type ?_ (by size_fits))
  refine wpAny_bind (m := firstArgMember _ _) (wpAny_of_eq (a := Value.none) (by first | rfl | (simp only [firstArgMember]; rfl)) (wpAny_newObj_type ?_ (by size_fits)))
  have g2 : (s.heap.update k (Obj.mapFields (·.setIfInBounds 0 .none))).get? x1 = some o1 := by
    first | (rw [Heap.get?_update_other _ _ (Ne.symm nk)]; exact g1) | (rw [Heap.get?_update_other _ _ nk]; exact g1)
  refine raiseNew_hot (x1 := x1) ⟨ha, o1, f1, Heap.get?_push_of_some _ (Heap.get?_push_of_some _ g2), d1, c1⟩ ?_ (Heap.get?_push_size _ rfl) rfl (by first | (simp; done) | (simp; omega) | (simp only [Array.size_append]; simp; omega)) ?_
  · exact Nat.ne_of_lt (Heap.lt_size (Heap.get?_push_of_some _ g2))
  · refine wpAny_bind (wpAny_isInstance (T := "StopIteration") (b := true) ⟨_, Heap.get?_update_self _ (Heap.get?_push_size _ rfl) rfl, rfl⟩ isSubtype_stop (wpAny_pure (q _ fun b o nb e => ?_)))
    have e2 : (s.heap.update k (Obj.mapFields (·.setIfInBounds 0 .none))).get? b = some o := by
      first | (rw [Heap.get?_update_other _ _ (Ne.symm nb)]; exact e) | (rw [Heap.get?_update_other _ _ nb]; exact e)
    rw [Heap.get?_update_other _ _ (Nat.ne_of_gt (Heap.lt_size (Heap.get?_push_of_some _ e2)))]
    exact Heap.get?_push_of_some _ (Heap.get?_push_of_some _ e2)
end
/-- the walk over the list at a (n items to come, the next one the i-th) while an exception is handled, the new list at D -/
def hgo (K : PySem.W.Frag) (a D : Addr) (g : TG) (te : TE) (vs : List Nat) (σ : L2.St) (k : Hp → Prop) : Nat → Nat → Hp → Prop
  | 0, i, H => (∃ xs, SqL K H a xs ∧ xs.length ≤ i) ∧ k H
  | n + 1, i, H => ∃ xs x, SqL K H a xs ∧ xs[i]? = some x ∧ g x (wipe σ vs) H fun σ2 H2 => wipe σ2 vs = wipe σ vs ∧ te σ2 H2 fun y H3 => ∃ acc, H3 D = some (.lst acc) ∧ acc.length < sizeLine ∧ hgo K a D g te vs σ k n (i + 1) (upd H3 D (.lst (acc ++ [y])))
def tHot (K : PySem.W.Frag) (ti : TE) (g : TG) (te : TE) (vs : List Nat) : TE := fun σ H Q => ti σ H fun x H1 => ∃ a n, x = .ref a ∧ (∃ xs, SqL K H1 a xs) ∧ ∀ D, H1 D = none → hgo K a D g te vs σ (fun H2 => Q (.ref D) H2) n 0 (upd H1 D (.lst []))
section
variable {X : Cx}
theorem pe_hot {elt tg iter : Expr} {scope : Scope} {own : List (Str × Nat)} {pos : Pos} {ti : TE} {g : TG} {te : TE} (hot : L2H.HotC X) (hN : X.N.Nodup) (hi : PE X iter ti) (ok : BlkOk X.N X.env.scope scope own)
    (hg : ∀ (s : Shared) (H : Hp) (C : Addr) (cl : List (Str × Addr)) (fp : List Addr), PG (X.blk s H scope (compEnvC scope cl C X.env) fp) tg g)
    (he : ∀ (s : Shared) (H : Hp) (C : Addr) (cl : List (Str × Addr)) (fp : List Addr), PE (X.blk s H scope (compEnvC scope cl C X.env) fp) elt te) (hs : ∀ x, foldedSetIterable iter X.env x = pure x := by intro _; rfl) :
    PE X (.ListComp elt [⟨tg, iter, [], 0⟩] scope pos) (tHot X.K ti g te (own.map (·.2))) := by
  refine ⟨fun pins s σ H Q I h => ?_⟩
  rw [eval_ListComp]
  have fr : ∀ y ∈ scope.names, y.2 = .free → ∃ c, X.env.cells.lookup y.1 = some c := fun y hy e => by
    rcases ok.free y hy e with z | z
    · exact I.ok.has _ (.inl z)
    · exact I.ok.has _ (.inr z)
  refine wpAny_comprehension_free (use := none) rfl hs (closure_ok fr) ok.kind (fun y hy e => by rw [ok.uniq y hy, e]) (thn (hi.run pins s σ H _ I h) fun v s1 ⟨x, H1, I1, r1, a, n0, ex, ⟨xs, hq⟩, q⟩ => ?_)
  subst ex
  cases r1
  obtain ⟨its, rv, pl, hz⟩ := I1.list hq
  -- the handled exception
  obtain ⟨p, ⟨hh, fs, d1, c1⟩, hp⟩ := hot
  obtain ⟨gp, np, _, _, _⟩ := I1.pin p (List.mem_append_left _ hp)
  have ltp := Heap.lt_size gp
  refine wpAny_pyIter_list pl.isList ?_
  obtain ⟨it, hit⟩ : ∃ it, s1.heap.objs.size = it := ⟨_, rfl⟩
  obtain ⟨s2, hs2⟩ : ∃ s2 : Shared, s2 = { s1 with heap := s1.heap.push { cls := .type "list_iterator", data := .fields #[.ref a, .int 0 0] } } := ⟨_, rfl⟩
  have I2 : Inv X pins σ H1 s2 := by rw [hs2]; exact I1.kept (t' := s1.toks) fun b o e => Heap.get?_push_of_some _ e
  have nit : H1 it = none := by rw [← hit]; exact I1.hok.fresh (Nat.le_refl _)
  have fit : FpOk X pins H1 it := by rw [← hit]; exact I1.fpOk (Nat.le_refl _) (I1.hok.fresh (Nat.le_refl _))
  have st2 : s2.heap.IsListIter it a 0 := by rw [hs2, ← hit]; exact ⟨_, Heap.get?_push_size _ rfl, rfl, rfl⟩
  have sz2 : s2.heap.objs.size = it + 1 := by rw [hs2, ← hit]; exact Heap.size_push _ _
  have gp2 : s2.heap.get? p.1 = some p.2 := by rw [hs2]; exact Heap.get?_push_of_some _ gp
  rw [hit]
  show wpAny _ _ (newList []) _ _ _
  rw [← hs2]
  refine wpAny_newObj_type (newEnv_comp ?_) (by show 0 ≤ sizeLine; decide)
  obtain ⟨D, hD⟩ : ∃ D, s2.heap.objs.size = D := ⟨_, rfl⟩
  have nD : H1 D = none := I2.hok.fresh (Nat.le_of_eq hD)
  have q := q D nD
  rw [hD]
  obtain ⟨s3, hs3⟩ : ∃ s3 : Shared, s3 = { s2 with heap := s2.heap.push { cls := .type "list", data := .seq ([] : List Value).toArray } } := ⟨_, rfl⟩
  have I3 : Inv X pins σ (upd H1 D (.lst [])) s3 := by
    rw [hs3]
    exact I2.laid (t' := s2.toks) (fun b o e => Heap.get?_push_of_some _ e) (Nat.le_of_eq hD) ⟨Nat.zero_le _, [], 0, .nil, by rw [← hD]; exact Heap.get?_push_size _ rfl⟩
  have sz3 : s3.heap.objs.size = it + 1 + 1 := by rw [hs3]; show (s2.heap.push _).objs.size = _; rw [Heap.size_push, sz2]
  have nDi : it ≠ D := by omega
  have lpi : p.1 < it := by rw [← hit]; exact ltp
  have lpD : p.1 < D := Nat.lt_trans lpi (by omega)
  have fp3 : ∀ b ∈ [it], FpOk X pins (upd H1 D (.lst [])) b ∧ b < s3.heap.objs.size := fun b hb => by
    have e : b = it := by simpa using hb
    subst e
    exact ⟨⟨by rw [upd_ne nDi]; exact fit.1, fit.2⟩, by omega⟩
  have st3 : s3.heap.IsListIter it a 0 := by
    obtain ⟨o, e, r⟩ := st2
    exact ⟨o, by rw [hs3]; exact Heap.get?_push_of_some _ e, r⟩
  have gp3 : s3.heap.get? p.1 = some p.2 := by rw [hs3]; exact Heap.get?_push_of_some _ gp2
  have np3 : upd H1 D (.lst []) p.1 = none := by
    rw [upd_ne (Nat.ne_of_lt lpD)]
    exact np
  have I4 := block_start I3 ok hN fp3
  have pg := hg s3 (upd H1 D (.lst [])) s3.heap.objs.size (cellsFrom (s3.heap.objs.size + 1) scope.names (cloFrom X.env.cells scope.names [])) [it]
  have pe := he s3 (upd H1 D (.lst [])) s3.heap.objs.size (cellsFrom (s3.heap.objs.size + 1) scope.names (cloFrom X.env.cells scope.names [])) [it]
  rw [← hs3]
  obtain ⟨H3, eH3⟩ : ∃ H3, upd H1 D (.lst []) = H3 := ⟨_, rfl⟩
  obtain ⟨L3, eL3⟩ : ∃ L3, s3.heap.objs.size = L3 := ⟨_, rfl⟩
  rw [eH3] at I3 I4 pg pe q np3 fp3
  rw [eL3] at I4 pg pe
  obtain ⟨ce, ece⟩ : ∃ ce, compEnvC scope (cellsFrom (L3 + 1) scope.names (cloFrom X.env.cells scope.names [])) L3 X.env = ce := ⟨_, rfl⟩
  obtain ⟨s4, es4⟩ : ∃ s4 : Shared, { s3 with heap := pushCells (s3.heap.push { cls := .type "dict", data := .dict #[] }) scope.names } = s4 := ⟨_, rfl⟩
  have cl : ce.locals = L3 := by rw [← ece]; rfl
  show codeAny _ _ (.compStart (.ListComp elt [⟨tg, iter, [], 0⟩] scope pos) 0 (.ref it) (.ref D) (compEnvC scope (cellsFrom (s3.heap.objs.size + 1) scope.names (cloFrom X.env.cells scope.names [])) s3.heap.objs.size X.env)) (compPost (model X.prog X.w) X.A X.xe none (EP X pins σ Q) (.ref D) s3.heap.objs.size) { s3 with heap := pushCells (s3.heap.push { cls := .type "dict", data := .dict #[] }) scope.names }
  rw [eL3, ece, es4]
  rw [ece] at I4 pg pe
  rw [es4] at I4
  have kp4 : ∀ b o, s3.heap.get? b = some o → s4.heap.get? b = some o := fun b o e => by rw [← es4]; exact pushCells_keeps _ _ _ _ (Heap.get?_push_of_some _ e)
  have st4 : s4.heap.IsListIter it a 0 := by
    obtain ⟨o, e, r⟩ := st3
    exact ⟨o, kp4 _ _ e, r⟩
  -- the handled exception, at any state of the block
  have hotAt : ∀ {σ' : L2.St} {H' : Hp} {pi : List (Addr × Obj)} {s' : Shared}, Inv (X.blk s3 H3 scope ce [it]) pi σ' H' s' → HotAt X.A p.1 s'.heap := fun {σ' H' pi s'} J => by
    obtain ⟨sl, e⟩ := J.base.any (show s3.heap.get? p.1 = some p.2 from gp3) np3 (by
      intro z
      have z' : p.1 = it := by simpa using (show p.1 ∈ [it] from z)
      exact Nat.ne_of_lt lpi z')
    exact ⟨hh, _, fs, e, d1, c1⟩
  have fpAt : ∀ {σ' : L2.St} {H' : Hp} {s' : Shared}, Inv (X.blk s3 H3 scope ce [it]) [] σ' H' s' → H' it = none → FpOk (X.blk s3 H3 scope ce [it]) [] H' it := fun {σ' H' s'} J n => by
    have mi : it ∈ (X.blk s3 H3 scope ce [it]).ex := List.mem_cons_self
    exact ⟨n, (J.ok.exf it mi).1, J.ok.exfs it mi, .inl mi, fun x c e => (J.ok.exf it mi).2 x c e, fun z hz => absurd (show z ∈ ([] : List (Addr × Obj)) ++ [] from hz) (by simp)⟩
  have loop : codeAny (model X.prog X.w) X.A (.compLoop (.ListComp elt [⟨tg, iter, [], 0⟩] scope pos) 0 (.ref it) (.ref D) ce) (compPost (model X.prog X.w) X.A X.xe none (EP X pins σ Q) (.ref D) L3) s4 := by
    refine compLoop_any (fun n s' => ∃ (i : Nat) (H' : Hp), Inv (X.blk s3 H3 scope ce [it]) [] (wipe σ (own.map (·.2))) H' s' ∧ s'.heap.IsListIter it a i ∧ H' it = none ∧ hgo X.K a D g te (own.map (·.2)) σ (fun H2 => Q (.ref D) H2) n i H') ?_ n0 ⟨0, H3, I4, st4, (fp3 it List.mem_cons_self).1.1, q⟩
    rintro n s5 ⟨i, H5, I5, st5, n5, q5⟩
    obtain ⟨f0, f1, f2, f3, f4, f5⟩ := fpAt I5 n5
    cases n with
    | succ n =>
      obtain ⟨xs5, x5, hq5, hx5, q5⟩ := q5
      obtain ⟨its5, rv5, pl5, _⟩ := I5.list hq5
      obtain ⟨u, hu, ru⟩ := rv5.get hx5
      refine wpAny_pyNext_list_item st5 pl5.isList (x := u) (by simpa using hu) fun h6 st6 sb => ?_
      have I6 : Inv (X.blk s3 H3 scope ce [it]) [] (wipe σ (own.map (·.2))) H5 { s5 with heap := h6 } := I5.turned (t' := s5.toks) (fun b o hb e => (sb.2 b hb).trans e) f0 f1 f3 f4 f5
      obtain ⟨oi, ei, ci, di⟩ := id st6
      refine go_of (s := { s5 with heap := h6 }) ei ci di (by decide) ?_
      have I7 := I6.pinned (fp := [it]) (fun b hb => by
        have e : b = it := by simpa using hb
        subst e
        exact fpAt I6 n5) (fun b hb => by
        have e : b = it := by simpa using hb
        subst e
        exact ⟨oi, ei, fun v z => by rw [di] at z; cases z⟩)
      refine thnF (pg.run _ _ _ H5 _ u _ I7 ru q5) fun _ s8 ⟨σ8, H8, I8, hw8, q8⟩ => ?_
      refine wpAny_tests_nil ?_
      simp only [if_true]
      refine thnF (pe.run _ s8 σ8 H8 _ I8 q8) fun z s9 ⟨yv, H9, I9, r9, acc, hD9, hz9, nx⟩ => ?_
      refine app_ok (X := X.blk s3 H3 scope ce [it]) I9 hD9 hz9 r9 fun s10 I10 => ?_
      have pin10 := I10.pin (it, oi) (List.mem_append_right _ (List.mem_append_right _ (mem_pinsAt (fp := [it]) List.mem_cons_self ei)))
      have lw : (wipe σ (own.map (·.2))).length = σ8.length := by rw [← hw8, wipe_length]
      refine ⟨n, Nat.lt_succ_self n, i + 1, _, (I10.unpinned (pins := [])).weak lw (fun j v e => ?_), ⟨oi, pin10.1, ci, di⟩, pin10.2.1, nx⟩
      rw [← hw8] at e
      exact (wipe_some e).1
    | zero =>
      obtain ⟨⟨xs5, hq5, hl5⟩, q5⟩ := q5
      obtain ⟨its5, rv5, pl5, _⟩ := I5.list hq5
      have l5 := rv5.length
      refine lstEnd_hot (hotAt I5) (Nat.ne_of_lt lpi) st5 pl5.isList (by simp; omega) fun h6 k6 => ?_
      have I6 : Inv (X.blk s3 H3 scope ce [it]) [] (wipe σ (own.map (·.2))) H5 { s5 with heap := h6 } := I5.turned (t' := s5.toks) (fun b o hb e => k6 b o hb e) f0 f1 f3 f4 f5
      have I7 : Inv X pins σ H5 { s5 with heap := h6 } := I3.call' (ch := [it]) I6.os I6.base I6.hok I6.bare fun b hb => ⟨(fp3 b hb).1.2.2.2.1, (fp3 b hb).1.2.1, (fp3 b hb).1.2.2.2.2.1, (fp3 b hb).1.2.2.2.2.2⟩
      have nC : H5 L3 = none := by
        have z : H5 ce.locals = none := I6.free
        rw [cl] at z
        exact z
      obtain ⟨m, hn, _⟩ := I6.loc
      have hn2 : h6.Ns ce.locals m := hn
      rw [cl] at hn2
      have fC := I3.fpOk (b := L3) (H' := H5) (Nat.le_of_eq eL3) nC
      obtain ⟨g0, g1, g2, g3, g4, g5⟩ := fC
      exact ⟨m, hn2, fun h7 sb => ⟨.ref D, H5, I7.turned (t' := s5.toks) (fun b o hb e => (sb.2 b hb).trans e) g0 g1 g3 g4 g5, rfl, q5⟩⟩
  exact codeAny_compStart_list loop (wpAny_pyIter_listiter st4 loop)
end
/-! the same on data -/
def dHot (da : DE) (g : DG) (te : DE) (vs : List Nat) : DE := fun δ G R EX => da δ G (fun d G1 => match d with
  | .ref a => ∃ l, G1 a = some (.lst l) ∧ ∀ p, G1 p = none → goLc (fun G2 => G2 a = some (.lst l)) p g dYes te (fun G2 => R (.ref p) G2) (wipeD δ vs) l (updD G1 p (.lst []))
  | _ => False) EX
theorem hgo_up {K : KT} {g0 : TG} {g : DG} {te : DE} {vs : List Nat} {σ : L2.St} {δ : DS} {H0 : Hp} {a p : Addr} {l0 : List D} {k : DH → Prop} {kk : Hp → Prop} (cg : CT vs g0) (lg : ∀ v σ H Q, upG K noE g v σ H Q → g0 v σ H Q) (sr : SRel K H0 σ δ)
    (hk : ∀ G H, Up H0 H → HRel K G H → k G → kk H) : ∀ (rest : List D) (i : Nat) (G : DH) (H : Hp), l0.drop i = rest → Up H0 H → HRel K G H → goLc (fun G2 => G2 a = some (.lst l0)) p g dYes te k (wipeD δ vs) rest G → hgo K.1 a p g0 (up K noE te) vs σ kk rest.length i H
  | [], i, G, H, e, u, hr, q => by
    obtain ⟨hG, q⟩ := q
    obtain ⟨xs, e1, r1⟩ := hr _ _ hG
    refine ⟨⟨xs, SqL.of e1, ?_⟩, hk G H u hr q⟩
    have := congrArg List.length e
    rw [List.length_drop, List.length_nil] at this
    rw [r1.length]
    omega
  | x :: rest, i, G, H, e, u, hr, q => by
    obtain ⟨hG, q⟩ := q
    obtain ⟨xs, e1, r1⟩ := hr _ _ hG
    have hx : l0[i]? = some x := by
      have := congrArg (fun z => z[0]?) e
      simpa using this
    have hd : l0.drop (i + 1) = rest := by
      rw [← List.drop_drop, e]
      rfl
    obtain ⟨v, e2, r2⟩ := r1.get hx
    have cw := cg v (wipe σ vs) H (fun σ3 H3 => up K noE te σ3 H3 fun y H4 => ∃ acc, H4 p = some (.lst acc) ∧ acc.length < sizeLine ∧ hgo K.1 a p g0 (up K noE te) vs σ kk rest.length (i + 1) (upd H4 p (.lst (acc ++ [y]))))
      (lg _ _ _ _ ⟨_, wipeD δ vs, G, _, noX, r2, (sr.up u).wipe vs, hr, q, fun σ3 H3 δ3 G3 u3 s3 h3 q3 => ?_, CloX.no⟩)
    · rw [wipe_wipe] at cw
      exact ⟨xs, v, SqL.of e1, e2, cw⟩
    · have q3 : (if true = true then te δ3 G3 (fun y G4 => ∃ acc, G4 p = some (.lst acc) ∧ acc.length < sizeLine ∧ goLc (fun G2 => G2 a = some (.lst l0)) p g dYes te k (wipeD δ vs) rest (updD G4 p (.lst (acc ++ [y])))) noX else goLc (fun G2 => G2 a = some (.lst l0)) p g dYes te k (wipeD δ vs) rest G3) := q3
      rw [if_pos rfl] at q3
      refine ⟨δ3, G3, _, noX, s3, h3, q3, fun y H4 dy G4 u4 h4 r4 q4 => ?_, CloX.no⟩
      obtain ⟨acc, ea, hl, q4⟩ := q4
      obtain ⟨ys, ey, ry⟩ := h4 _ _ ea
      have uw : Up H4 (upd H4 p (.lst (ys ++ [y]))) := Up.put ey trivial
      exact ⟨ys, ey, by rw [ry.length]; exact hl, hgo_up cg lg sr hk rest (i + 1) _ _ hd ((u.trans (u3.trans u4)).trans uw) (h4.put (c := .lst (acc ++ [dy])) ey trivial ⟨_, upd_same, (ry.up uw).append (.cons (r4.up uw) .nil)⟩) q4⟩
section
variable {X : Cx} {E : EK}
theorem pd_hot {elt tg iter : Expr} {scope : Scope} {own : List (Str × Nat)} {pos : Pos} {de te : DE} {g : DG} (hot : L2H.HotC X) (hN : X.N.Nodup) (hi : PD X E iter de) (ok : BlkOk X.N X.env.scope scope own)
    (B : BlkP X E scope (own.map (·.2)) tg elt [] g dYes te) (hs : ∀ x, foldedSetIterable iter X.env x = pure x := by intro _; rfl) : PD X E (.ListComp elt [⟨tg, iter, [], 0⟩] scope pos) (dHot de g te (own.map (·.2))) := by
  obtain ⟨g0, c0, l0, p0⟩ := B.g
  refine ⟨imE (pe_hot (te := up (kt X E) noE te) hot hN hi.pe ok p0 (fun s H C cl fp => (B.e s H C cl fp).pe) hs) fun σ H Q ⟨δ, G, R, EX, sr, hr, h, cr, cx⟩ => ⟨δ, G, _, EX, sr, hr, h, fun v H1 d G1 u1 h1 r1 q1 => ?_, cx⟩⟩
  dsimp only at q1
  split at q1
  · rename_i a
    cases r1
    obtain ⟨l, e, q1⟩ := q1
    obtain ⟨xs, e1, _⟩ := h1 _ _ e
    refine ⟨a, l.length, rfl, ⟨xs, SqL.of e1⟩, fun D hD => ?_⟩
    have un : Up H1 (upd H1 D (.lst [])) := Up.new hD
    exact hgo_up c0 l0 (sr.up u1) (fun G2 H2 u2 h2 q2 => cr _ _ _ _ (u1.trans u2) h2 (.ref D) q2) l 0 _ _ (by simp) un (h1.new (c := .lst []) hD ⟨[], upd_same, .nil⟩) (q1 D (h1.none hD))
  · exact False.elim q1
end
end Cc
/-! ### a lambda that is handed to a def and called there -/
namespace Cc
open PySem PySem.Spec PyProof.Rows L2
open LamX (LamS CodeO lamEnv lamCx)
/-- the context of a handed lambda's body; what it lets out has no context of its own -/
abbrev lamC (X : Cx) (A : Around) (outer : List Env) (s : Shared) (H : Hp) (E : XK) (scope : Scope) (f c' : Addr) : Cx :=
  (lamCx X A outer s H E scope f c').tr [] fun e s' => wpAny (model X.prog X.w) (A.deeper (lamEnv X scope s.heap.objs.size f c')) (leaving (lamEnv X scope s.heap.objs.size f c') e) (fun _ s2 => L2N.CX X.prog X.w outer H s E e s2) (fun e2 s2 => L2N.CX X.prog X.w outer H s E e2 s2) s'
section
variable {X : Cx} {pins : List (Addr × Obj)} {σ : L2.St} {H : Hp} {s : Shared}
/-- x(), in the def that was given the lambda -/
theorem pe_thunk {Eg : XK} {Ng : List Str} {qg : Str} {sg : Scope} {g f c' : Addr} {cdg pm ctv : Value} {params : Arguments} {body : Expr} {scope : Scope} {k i : Nat} {a : Str} {pn : List (Addr × Obj)} {xe : Value → Shared → Prop} {W : WX} {tl : XK → TE} {p1 p2 : Pos}
    (I : Inv X pins σ H s) (L : LamS X.env.scope scope) (hf : s.heap.get? f = some (PySem.W.kla_obj "<lambda>" (X.env.qual ++ "<lambda>") params body scope (cloFrom X.env.cells scope.names []) pm c' ctv)) (hfn : H f = none) (hfr : f ∉ frs X.stack)
    (hbind : bindArgs (PySem.W.kla_fn "<lambda>" (X.env.qual ++ "<lambda>") params body scope (cloFrom X.env.cells scope.names []) pm (.ref c') ctv) ⟨[], []⟩ = pure [])
    (tk : L2N.Takes ((cxOf (L2N.CX X.prog X.w) X.prog X.w X.K X.mg X.base Ng qg sg g cdg X.A X.stack s H Eg).tr pn xe) W) (hr : Room (k + 1) (X.A.deeper (envOfC qg sg s.heap.objs.size g cdg)))
    (hbody : ∀ (A : Around) (outer : List Env) (s : Shared) (H : Hp) (E : XK), Room k (A.deeper (lamEnv X scope s.heap.objs.size f c')) → PE (lamC X A outer s H E scope f c') body (tl E))
    (hN : Ng[i]? = some a) (hv : Vis sg a) (hd : (a == ("__debug__" : Str)) = false := by decide) (hcd : (a == ("__classdict__" : Str)) = false := by decide) :
    PE ((cxOf (L2N.CX X.prog X.w) X.prog X.w X.K X.mg X.base Ng qg sg g cdg X.A X.stack s H Eg).tr pn xe) (.Call (.Name a p1) [] [] p2)
      (fun σZ HZ Q => σZ[i]? = some (some (.ref f)) ∧ HZ c' = some (CodeO c' (X.env.qual ++ "<lambda>")) ∧ ∃ Ech : XK, (∀ cls d H', Ech cls d H' → W cls d σZ H') ∧ tl Ech σ HZ Q) := by
  refine ⟨fun pz sz σz Hz Q Iz ⟨h1, h2, Ech, hW, h3⟩ => wpAny_Call_Name_kw (thn ((pe_var (pos := p1) (i := i) hN hv hd hcd).run pz sz σz Hz (fun v H1 => v = .ref f ∧ H1 = Hz) Iz ⟨.ref f, h1, rfl, rfl⟩) fun u s1 ⟨v, H1, I1, r1, ev, eH⟩ => ?_)⟩
  subst ev
  rw [eH] at I1
  obtain rfl : u = Value.ref f := r1
  have un : Un (frs X.stack) [] H Hz s.heap s1.heap := I1.base
  have gf : s1.heap.get? f = some (PySem.W.kla_obj "<lambda>" (X.env.qual ++ "<lambda>") params body scope (cloFrom X.env.cells scope.names []) pm c' ctv) := un.keep f _ hf hfn hfr (fun z => nomatch (show f ∈ ([] : List Addr) from z))
  refine PySem.W.callWith_F0 ⟨_, _, _, _, gf⟩ ?_
  obtain ⟨⟨oc, vs, t, hoc, hdc, hvc⟩, _, _⟩ := I1.hok c' _ h2
  have go : codeAny (model X.prog X.w) (X.A.deeper (envOfC qg sg s.heap.objs.size g cdg)) (.call (.ref f) ⟨[], []⟩) (CR (L2N.CX X.prog X.w) (envOfC qg sg s.heap.objs.size g cdg :: X.stack) X.prog X.w Hz s1 Q Ech) s1 := by
    refine PySem.W.kla_callFunE hr.depth gf rfl L.co L.gen rfl ⟨c', oc, vs, t, rfl, hoc, hdc, hvc⟩ ?_
    rw [hbind]
    refine wpAny_pure (wpAny_newFunctionEnv (fun y hy => (L.own y hy).2) (fun y hy => absurd hy (by simp)) (fun h₁ hns hsb => ⟨I1.nolimit.fresh _ hsb, ?_⟩) L.kind)
    have kp : ∀ b o, s1.heap.get? b = some o → h₁.get? b = some o := fun b o e => hsb.extBut b o (Nat.ne_of_lt (Heap.lt_size e)) (Heap.get?_push_of_some _ e)
    have J0 : Inv (lamCx X (X.A.deeper (envOfC qg sg s.heap.objs.size g cdg)) (envOfC qg sg s.heap.objs.size g cdg :: X.stack) s1 Hz Ech scope f c') [] σ Hz { s1 with heap := h₁, toks := s1.toks + ([] : List (Str × Value)).length } :=
      LamX.lam_start2 I L I1.env0 hr.hd un hns kp
    have J := J0.toTry fun e s' => wpAny (model X.prog X.w) ((X.A.deeper (envOfC qg sg s.heap.objs.size g cdg)).deeper (lamEnv X scope s1.heap.objs.size f c')) (leaving (lamEnv X scope s1.heap.objs.size f c') e) (fun _ s2 => L2N.CX X.prog X.w (envOfC qg sg s.heap.objs.size g cdg :: X.stack) Hz s1 Ech e s2) (fun e2 s2 => L2N.CX X.prog X.w (envOfC qg sg s.heap.objs.size g cdg :: X.stack) Hz s1 Ech e2 s2) s'
    show codeAny _ _ (.expr body (lamEnv X scope s1.heap.objs.size f c')) _ _
    refine PySem.W.kla_codeExpr (wpAny_mono ((hbody _ _ s1 Hz Ech (hr.deeper _)).run [] _ _ Hz Q J h3) (fun v s' ⟨w', H', J', rv, q⟩ => ⟨w', H', J'.os, J'.bare, J'.base, J'.hok, rv, q⟩) fun e s' hq => hq)
  refine wpAny_call (codeAny_mono go fun r s' hq => ?_)
  cases r with
  | error e => exact tk e s' (L2N.XE.of_call I1 (fun cls d H' z => hW cls d H' z) hq)
  | ok fl =>
    cases fl with
    | ret u => exact I1.after hq
    | next => exact False.elim hq
    | brk => exact False.elim hq
    | cont => exact False.elim hq
end
end Cc
/-! ### x(lambda: .., e2, e3) -/
namespace Cc
open PySem PySem.Spec PyProof.Rows L2
open LamX (LamS CodeO lamEnv lamCx TabB Tabs ExtN)
/-- an expression that leaves all as it is -/
structure Quiet (X : Cx) (e : Expr) (t : L2.St → V → Prop) : Prop where
  run : ∀ {pins : List (Addr × Obj)} {s : Shared} {σ : L2.St} {H : Hp} {v : V} {E : Value → Shared → Prop} {Q : Value → Shared → Prop}, Inv X pins σ H s → t σ v → (∀ u tk, RelV v u → Q u { s with toks := tk }) → wpAny (model X.prog X.w) X.A (eval e X.env) Q E s
section
variable {X : Cx}
theorem quiet_int {n : Int} {j pos} : Quiet X (.Constant (.int n) j pos) (fun _ v => v = .int n) := ⟨fun {pins s σ H v E Q} I h q => by
  subst h
  exact wpAny_Constant_int (q _ _ ⟨_, rfl⟩)⟩
theorem quiet_str {n : Str} {j pos} : Quiet X (.Constant (.str n) j pos) (fun _ v => v = .str n) := ⟨fun {pins s σ H v E Q} I h q => by
  subst h
  exact wpAny_Constant_str (q _ _ ⟨_, rfl⟩)⟩
theorem quiet_var {i : Nat} {x : Str} {pos : Pos} (hN : X.N[i]? = some x) (hv : Vis X.env.scope x) (hd : (x == ("__debug__" : Str)) = false := by decide) (hcd : (x == ("__classdict__" : Str)) = false := by decide) : Quiet X (.Name x pos) (fun σ v => σ[i]? = some (some v)) :=
  ⟨fun {pins s σ H v E Q} I h q => by
    obtain ⟨m, hn, hl⟩ := I.loc
    obtain ⟨u, r, l⟩ := hl i x v hN h hv
    have fin : Q u s := q u s.toks r
    rcases l with ⟨hk, hm⟩ | ⟨hk, c, hc, hcell⟩
    · exact wpAny_Name (wpAny_loadName_local I.ok.kind hk hn hm fin) hd
    · rcases hk with hk | hk
      · exact wpAny_Name (wpAny_loadName_cell I.ok.kind hk hc hcell fin) hd
      · exact wpAny_Name (wpAny_loadName_free I.ok.kind hk hc hcell fin hcd) hd⟩
/-- the context of the def that is given the lambda -/
abbrev gotC (X : Cx) (Ng : List Str) (qg : Str) (sg : Scope) (g : Addr) (cdg : Value) (s : Shared) (H : Hp) (E : XK) : Cx := cxOf (L2N.CX X.prog X.w) X.prog X.w X.K X.mg X.base Ng qg sg g cdg X.A X.stack s H E
/-- a() within that def: the lambda at f does tl -/
def ActT (f c' : Addr) (q : Str) (W : WX) (tl : XK → Hp → VK → Prop) : TE := fun σZ HZ Q => σZ[0]? = some (some (.ref f)) ∧ HZ c' = some (CodeO c' q) ∧ ∃ Ech : XK, (∀ cls d H', Ech cls d H' → W cls d σZ H') ∧ tl Ech HZ Q
/-- what that def promises of any lambda -/
def Given (X : Cx) (Ng ps : List Str) (qg a : Str) (sg : Scope) (g : Addr) (cdg : Value) (bg : List Stmt) (k : Nat) (q : Str) (sp : (XK → Hp → VK → Prop) → Sp) : Prop :=
  ∀ (f c' : Addr) (s : Shared) (H : Hp) (Q : VK) (E : XK) (vs : List V) (tl : XK → Hp → VK → Prop),
    (∀ (W : WX) (pn : List (Addr × Obj)) (xe : Value → Shared → Prop) (p1 p2 : Pos), L2N.Takes ((gotC X Ng qg sg g cdg s H E).tr pn xe) W → PE ((gotC X Ng qg sg g cdg s H E).tr pn xe) (.Call (.Name a p1) [] [] p2) (ActT f c' q W tl)) →
    Room k (X.A.deeper (envOfC qg sg s.heap.objs.size g cdg)) → H c' = some (CodeO c' q) → sp tl vs H Q E → ∃ t, PSs (gotC X Ng qg sg g cdg s H E) bg t ∧ t { nx := fun _ H' => Q .non H', rt := Q } (L2.start Ng (.ref f :: vs)) H
def tGive (T : List (Addr × Str)) (E : XK) (t2 t3 : L2.St → V → Prop) (sp : (XK → Hp → VK → Prop) → Sp) (t : XK → TE) : TE := fun σ H Q => Tabs T H ∧ ∃ v2 v3, t2 σ v2 ∧ t3 σ v3 ∧ ∀ H1, ExtN H H1 → Tabs T H1 → sp (fun E' H' Q' => t E' σ H' Q') [v2, v3] H1 Q E
theorem pe_give {T : List (Addr × Str)} {sp : (XK → Hp → VK → Prop) → Sp} {x a a2 a3 : Str} {g c P : Addr} {k : Nat} {pg : Arguments} {bg : List Stmt} {sg : Scope} {dV kV doc pm cdv ct oc : Value} {an od : Option Addr} {osl : Array (Option Value)} {Ng : List Str} {E : XK}
    {params : Arguments} {body e2 e3 : Expr} {scope : Scope} {t : XK → TE} {t2 t3 : L2.St → V → Prop} {p lpos pos : Pos} (hg : Gl X x) (hm : X.mg x = some (.ref g)) (hk : PySem.W.keepIn X.K (.ref g) = true)
    (lk : X.K.lookup g = some ⟨oc, od, .func (PySem.W.fnOf x x pg bg sg dV kV doc pm an cdv ct), osl⟩) (hcg : PySem.W.codeIn X.K cdv x = true) (hb : L2.Binds X.K (PySem.W.fnOf x x pg bg sg dV kV doc pm an cdv ct) [a, a2, a3] []) (Sg : FnScope Ng [a, a2, a3] sg) (hNg : Ng[0]? = some a) (hva : Vis sg a)
    (hG : Given X Ng [a, a2, a3] x a sg g cdv bg k (X.env.qual ++ "<lambda>") sp) (hx : Passes (L2N.CX X.prog X.w) X E) (q2 : Quiet X e2 t2) (q3 : Quiet X e3 t3)
    (TB : TabB X.base X.mg c P) (hcode : X.env.code = .ref c) (hmT : (P, X.env.qual ++ "<lambda>") ∈ T) (hu : ∀ p ∈ T, p.1 = P → p.2 = X.env.qual ++ "<lambda>") (hr : Room (k + 2) X.A) (L : LamS X.env.scope scope) (hdef : defaultsOf params X.env = ([], []))
    (hbind : ∀ (q : Str) (cl : List (Str × Addr)) (pm cv ctv : Value), bindArgs (PySem.W.kla_fn "<lambda>" q params body scope cl pm cv ctv) ⟨[], []⟩ = pure [])
    (hbody : ∀ (A : Around) (outer : List Env) (s : Shared) (H : Hp) (E : XK) (f c' : Addr), Room k (A.deeper (lamEnv X scope s.heap.objs.size f c')) → PE (lamC X A outer s H E scope f c') body (t E))
    (hdb : (x == ("__debug__" : Str)) = false := by decide) (hd : (a == ("__debug__" : Str)) = false := by decide) (hcd : (a == ("__classdict__" : Str)) = false := by decide)
    (hse : backTo pos (starEach [e2, e3] X.env) = [(false, eval e2 X.env), (false, eval e3 X.env)] := by rfl) :
    PE X (.Call (.Name x p) [.Lambda params body scope lpos, e2, e3] [] pos) (tGive T E t2 t3 sp t) := by
  refine ⟨fun pins s σ H Q I ⟨hT, v2, v3, h2, h3, h⟩ => ?_⟩
  refine wpAny_Call_Name_kw (ld_glob I hg hm ?_ hdb)
  refine PySem.W.callWith_K (h₀ := X.base) I.ok.mod.kin hk ?_ (by rfl) (by rw [hse]; rfl)
  show wpAny _ _ (spliced ((false, eval (.Lambda params body scope lpos) X.env) :: backTo pos (starEach [e2, e3] X.env))) _ _ s
  rw [hse]
  refine Calls.spliced_cons (LamX.lam_make2 I TB hcode hmT hu hT hdef (L.has I.ok) fun f c' pm' ctv H1 s1 I1 eN T1 hf hfn hfr hco => ?_)
  refine Calls.spliced_cons (q2.run I1 h2 fun u2 tk2 r2 => ?_)
  have I2 := I1.tok tk2
  refine Calls.spliced_cons (q3.run I2 h3 fun u3 tk3 r3 => ?_)
  have I3 : Inv X pins σ H1 { s1 with toks := tk3 } := I2.tok tk3
  refine Calls.spliced_nil ⟨I3.kIn, ?_⟩
  have rc : codeAny (model X.prog X.w) X.A (.call (.ref g) ⟨[.ref f, u2, u3], []⟩) (CR (L2N.CX X.prog X.w) X.stack X.prog X.w H1 { s1 with toks := tk3 } Q E) { s1 with toks := tk3 } := by
    refine LamX.run_ofS (N := Ng) (ps := [a, a2, a3]) (us := [.ref f, u2, u3]) (vs := [.ref f, v2, v3]) lk hcg Sg hr I3.env0 (hb _ [.ref f, u2, u3] I3.kIn rfl) (.cons rfl (.cons r2 (.cons r3 .nil))) rfl fun hr' => ?_
    exact hG f c' { s1 with toks := tk3 } H1 Q E [v2, v3] (fun E' H' Q' => t E' σ H' Q') (fun W pn xe p1 p2 tk => pe_thunk (i := 0) I3 L hf hfn hfr (hbind _ _ _ _ _) tk hr' (fun A outer s H E hr2 => hbody A outer s H E f c' hr2) hNg hva hd hcd) (hr'.mono (Nat.le_succ k)) hco (h H1 eN T1)
  refine wpAny_call (codeAny_mono rc fun r s2 hq => ?_)
  cases r with
  | error e => exact hx pins σ H1 _ e s2 I3 hq
  | ok fl =>
    cases fl with
    | ret u => exact I3.after hq
    | next => exact False.elim hq
    | brk => exact False.elim hq
    | cont => exact False.elim hq
end
end Cc
/-! ### isinstance(e, ..) in an except suite -/
namespace Cc
open PySem PySem.Spec PyProof.Rows L2
def isV : D → Option Value
  | .ref a => some (.ref a)
  | .ty n => some (.type n)
  | _ => none
theorem isV_of {K : KT} {H : Hp} {v : V} {d : D} {cv : Value} (h : Dv K H v d) (e : isV d = some cv) : ∀ u, RelV v u → u = cv := fun u r => by
  cases h <;> cases e <;> exact r
/-- isinstance(e, c): e stands at a, its class is C -/
def dIsE (K : PySem.W.Frag) (a C : Addr) : DC := fun xs G R => match xs with
  | [.ref x, c] => x = a ∧ ∃ cv b, isV c = some cv ∧ PySem.W.kitOne K (.ref C) cv = some b ∧ R (.bl b) G
  | _ => False
theorem cd_isE {X : Cx} {a C : Addr} {oe : Obj} {pn : List (Addr × Obj)} (hC : ExcC X.K C) (hz : Zc (.ref C) none oe) (hf : ∃ vs, oe.data = .fields vs) : CD (X.suite a ((a, oe) :: pn)) (.builtin "isinstance") (dIsE X.K a C) :=
  ⟨_, call_isE hC hz hf, fun T x H d G R Q hr r q cr => by
    unfold dIsE at q
    split at q
    · obtain ⟨rfl, cv, b, e1, e2, q⟩ := q
      cases r with
      | cons r1 r =>
        cases r with
        | cons r2 r =>
          cases r
          cases r1
          exact ⟨_, cv, b, rfl, isV_of r2 e1, e2, cr _ _ _ _ (Up.refl H) hr (.bl b) q⟩
    · exact False.elim q⟩
/-- the class's facts, as a Bool of what is looked at -/
def excCB (K : PySem.W.Frag) (C : Addr) : Bool := He.eqO (PySem.W.findIn K (.ref C) "__getattribute__") (some (some (.builtin "BaseException.__getattribute__"))) && (He.eqO (PySem.W.findIn K (.ref C) "__getattr__") (some none) && (decide (PySem.W.subIn K (.ref C) (.type "BaseException") = some true) &&
  (PySem.W.hasDictIn K C && (He.eqO (PySem.W.findIn K (.ref C) "__class__") (some (some (.builtin "object.__class__"))) && (He.eqO (PySem.W.specialIn K (.builtin "object.__class__") "__get__") (some (some (.builtin "getset_descriptor.__get__"))) &&
  (decide (PySem.W.takesIn K (.builtin "object.__class__") = some true) && decide (PySem.W.mroIn K C (.type "object") = some true)))))))
theorem excC_of {K : PySem.W.Frag} {C : Addr} (h : excCB K C = true) : ExcC K C := by
  unfold excCB at h
  simp only [Bool.and_eq_true] at h
  obtain ⟨h1, h2, h3, h4, h5, h6, h7, h8⟩ := h
  exact ⟨He.eqO_ok h1, He.eqO_ok h2, of_decide_eq_true h3, h4, He.eqO_ok h5, He.eqO_ok h6, of_decide_eq_true h7, of_decide_eq_true h8⟩
theorem pd_never {X : Cx} {E : EK} {e : Expr} : PD X E e (fun _ _ _ _ => False) := ⟨⟨fun pins s σ H Q I ⟨_, _, _, _, _, _, h, _⟩ => h.elim⟩⟩
theorem hot_suite {X : Cx} {a : Addr} {cls : Value} {d : Option Addr} {oe : Obj} {pn : List (Addr × Obj)} (hz : L2N.Zn cls d oe) (hf : ∃ vs, oe.data = .fields vs) : L2H.HotC (X.suite a ((a, oe) :: pn)) := by
  obtain ⟨vs, e⟩ := hf
  exact ⟨(a, oe), ⟨rfl, vs, e, hz.2.2 vs e⟩, List.mem_cons_self⟩
/-- what is kept of a state that only grows -/
def Grow (H H' : Hp) : Prop := ∀ b o, H b = some o → H' b = some o
end Cc
/-! ### the law's _law_refused(lambda: .., word, 0), on data -/
namespace Cc
open PySem PySem.Spec PyProof.Rows L2
open LamX (LamS CodeO lamEnv lamCx TabB Tabs ExtN)
/-- the def that is given the lambda promises: it answers True of a lambda that raises C -/
def spRef (K : KT) (w : Str) (C : Addr) (tl : XK → Hp → VK → Prop) : Sp := fun vs H Q _ => (∃ v, vs = [.str w, v]) ∧ ∀ Q' : VK,
  tl (fun cls o H' => cls = .ref C ∧ o = none ∧ ∃ G', HRel K G' H' ∧ ∀ G2 H2, Sub G' G2 → Up H' H2 → HRel K G2 H2 → Q (.bl true) H2) H Q'
def dRefuse (dt : DE) (C : Addr) : DE := fun δ G R _ => dt δ G (fun _ _ => False) (fun cls o G' => cls = .ref C ∧ o = none ∧ ∀ G2, Sub G' G2 → R (.bl true) G2)
section
variable {X : Cx} {E : EK}
theorem pd_refuse {w x a a2 a3 : Str} {g c P C : Addr} {k : Nat} {pg : Arguments} {bg : List Stmt} {sg : Scope} {dV kV doc pm cdv ct oc : Value} {an od : Option Addr} {osl : Array (Option Value)} {Ng : List Str}
    {params : Arguments} {body : Expr} {scope : Scope} {dt : DE} {n : Int} {j1 j2} {p lpos pos p2 p3 : Pos} (hg : Gl X x) (hm : X.mg x = some (.ref g)) (hk : PySem.W.keepIn X.K (.ref g) = true)
    (lk : X.K.lookup g = some ⟨oc, od, .func (PySem.W.fnOf x x pg bg sg dV kV doc pm an cdv ct), osl⟩) (hcg : PySem.W.codeIn X.K cdv x = true) (hb : L2.Binds X.K (PySem.W.fnOf x x pg bg sg dV kV doc pm an cdv ct) [a, a2, a3] []) (Sg : FnScope Ng [a, a2, a3] sg) (hNg : Ng[0]? = some a) (hva : Vis sg a)
    (hG : Given X Ng [a, a2, a3] x a sg g cdv bg k (X.env.qual ++ "<lambda>") (spRef (kt X E) w C)) (hx : Passes (L2N.CX X.prog X.w) X E.1)
    (TB : TabB X.base X.mg c P) (hcode : X.env.code = .ref c) (hmT : (P, X.env.qual ++ "<lambda>") ∈ E.2) (hu : ∀ p ∈ E.2, p.1 = P → p.2 = X.env.qual ++ "<lambda>") (hr : Room (k + 2) X.A) (L : LamS X.env.scope scope) (hdef : defaultsOf params X.env = ([], []))
    (hbind : ∀ (q : Str) (cl : List (Str × Addr)) (pm cv ctv : Value), bindArgs (PySem.W.kla_fn "<lambda>" q params body scope cl pm cv ctv) ⟨[], []⟩ = pure [])
    (hbody : ∀ (A : Around) (outer : List Env) (s : Shared) (H : Hp) (E' : XK) (f c' : Addr), Room k (A.deeper (lamEnv X scope s.heap.objs.size f c')) → PD (lamC X A outer s H E' scope f c') (E', E.2) body dt)
    (hdb : (x == ("__debug__" : Str)) = false := by decide) (hd : (a == ("__debug__" : Str)) = false := by decide) (hcd : (a == ("__classdict__" : Str)) = false := by decide)
    (hse : backTo pos (starEach [.Constant (.str w) j1 p2, .Constant (.int n) j2 p3] X.env) = [(false, eval (.Constant (.str w) j1 p2) X.env), (false, eval (.Constant (.int n) j2 p3) X.env)] := by rfl) :
    PD X E (.Call (.Name x p) [.Lambda params body scope lpos, .Constant (.str w) j1 p2, .Constant (.int n) j2 p3] [] pos) (dRefuse dt C) := by
  refine ⟨imE (pe_give (T := E.2) (E := E.1) (t := fun E' => up (kt X E) E' dt) (sp := spRef (kt X E) w C) hg hm hk lk hcg hb Sg hNg hva hG hx quiet_str quiet_int TB hcode hmT hu hr L hdef hbind (fun A outer s H E' f c' hr' => (hbody A outer s H E' f c' hr').pe) hdb hd hcd hse) fun σ H Q ⟨δ, G, R, EX, sr, hG0, h, cr, cx⟩ => ?_⟩
  refine ⟨hG0.t, .str w, .int n, rfl, rfl, fun H1 ex tb => ⟨⟨_, rfl⟩, fun Q' => ?_⟩⟩
  have u1 := extN_up ex
  refine ⟨δ, G, _, _, sr.up u1, extN_h hG0 ex tb, h, fun v H' d G' _ _ _ z => z.elim, fun cls o H' G' u h' ⟨e1, e2, z⟩ => ⟨e1, e2, G', h', fun G2 H2 s u2 h2 => cr _ _ _ _ ((u1.trans u).trans u2) h2 (.bl true) (z G2 s)⟩⟩
theorem tkL {A : Around} {outer : List Env} {s : Shared} {H : Hp} {E' : XK} {scope : Scope} {f c' : Addr} : L2N.Takes (lamC X A outer s H E' scope f c') (fun cls d _ H => E' cls d H) := L2N.takes_of rfl rfl rfl rfl
theorem psL {A : Around} {outer : List Env} {s : Shared} {H : Hp} {E' : XK} {scope : Scope} {f c' : Addr} : Passes (L2N.CX X.prog X.w) (lamC X A outer s H E' scope f c') E' := L2N.passes_call tkL fun _ _ _ _ h => h
/-- pd_refuse, the def told by the head -/
theorem pd_refuseF {w x a a2 a3 : Str} {g c P C : Addr} {k : Nat} {pg : Arguments} {bg : List Stmt} {sg : Scope} {fd : FuncData} {Ng : List Str}
    {params : Arguments} {body : Expr} {scope : Scope} {dt : DE} {n : Int} {j1 j2} {p lpos pos p2 p3 : Pos} (F : FunD X.K x x pg bg sg [] [] g fd) (hm : X.mg x = some (.ref g)) (Sg : FnScope Ng [a, a2, a3] sg)
    (hbg : ∀ (kV doc pm : Value) (an : Option Addr) (cdv ct : Value) (us : List Value), us.length = 3 → bindArgs (PySem.W.fnOf x x pg bg sg .none kV doc pm an cdv ct) ⟨us, []⟩ = pure (([a, a2, a3] : List Str).zip us))
    (hG : ∀ cdg : Value, Given X Ng [a, a2, a3] x a sg g cdg bg k (X.env.qual ++ "<lambda>") (spRef (kt X E) w C)) (hx : Passes (L2N.CX X.prog X.w) X E.1)
    (TB : TabB X.base X.mg c P) (hcode : X.env.code = .ref c) (hmT : (P, X.env.qual ++ "<lambda>") ∈ E.2) (hu : ∀ p ∈ E.2, p.1 = P → p.2 = X.env.qual ++ "<lambda>") (hr : Room (k + 2) X.A) (L : LamS X.env.scope scope) (hdef : defaultsOf params X.env = ([], []))
    (hbind : ∀ (q : Str) (cl : List (Str × Addr)) (pm cv ctv : Value), bindArgs (PySem.W.kla_fn "<lambda>" q params body scope cl pm cv ctv) ⟨[], []⟩ = pure [])
    (hbody : ∀ (A : Around) (outer : List Env) (s : Shared) (H : Hp) (E' : XK) (f c' : Addr), Room k (A.deeper (lamEnv X scope s.heap.objs.size f c')) → PD (lamC X A outer s H E' scope f c') (E', E.2) body dt)
    (hg : Gl X x := by rfl) (hNg : Ng[0]? = some a := by rfl) (hva : Vis sg a := by first | exact .inl rfl | exact .inr (.inl rfl)) (hdb : (x == ("__debug__" : Str)) = false := by decide) (hd : (a == ("__debug__" : Str)) = false := by decide) (hcd : (a == ("__classdict__" : Str)) = false := by decide)
    (hse : backTo pos (starEach [.Constant (.str w) j1 p2, .Constant (.int n) j2 p3] X.env) = [(false, eval (.Constant (.str w) j1 p2) X.env), (false, eval (.Constant (.int n) j2 p3) X.env)] := by rfl) :
    PD X E (.Call (.Name x p) [.Lambda params body scope lpos, .Constant (.str w) j1 p2, .Constant (.int n) j2 p3] [] pos) (dRefuse dt C) := by
  have hb := F.bindsN (ps := [a, a2, a3]) hbg
  have kp := F.kp
  obtain ⟨oc, od, dV, kV, doc, pm, an, cdv, ct, osl, rfl, lk, hcd2, hD, _⟩ := F.ex
  exact pd_refuse hg hm kp lk hcd2 hb Sg hNg hva (hG cdv) hx TB hcode hmT hu hr L hdef hbind hbody hdb hd hcd hse
end
end Cc
/-! ### the law's _law_refused(lambda: .., a word, a number), words and numbers of any sort -/
namespace Cc
open PySem PySem.Spec PyProof.Rows L2
open LamX (LamS CodeO lamEnv lamCx TabB Tabs ExtN)
/-- an expression that leaves all as it is, on data -/
structure QuietD (X : Cx) (e : Expr) (dq : DS → D → Prop) : Prop where
  ex : ∃ t : L2.St → V → Prop, Quiet X e t ∧ ∀ (K : KT) (H : Hp) (σ : L2.St) (δ : DS) (d : D), SRel K H σ δ → dq δ d → ∃ v, t σ v ∧ Dv K H v d
section
variable {X : Cx}
theorem qd_str {n : Str} {j : Nat} {pos : Pos} : QuietD X (.Constant (.str n) j pos) (fun _ d => d = .str n) := ⟨_, quiet_str, fun K H σ δ d _ e => ⟨_, rfl, by rw [e]; exact .str n⟩⟩
theorem qd_int {n : Int} {j : Nat} {pos : Pos} : QuietD X (.Constant (.int n) j pos) (fun _ d => d = .int n) := ⟨_, quiet_int, fun K H σ δ d _ e => ⟨_, rfl, by rw [e]; exact .int n⟩⟩
theorem qd_var (i : Nat) {x : Str} {pos : Pos} (hN : X.N[i]? = some x := by rfl) (hv : Vis X.env.scope x := by first | exact Or.inl rfl | exact Or.inr (Or.inl rfl) | exact Or.inr (Or.inr rfl)) (hd : (x == ("__debug__" : Str)) = false := by decide) (hcd : (x == ("__classdict__" : Str)) = false := by decide) : QuietD X (.Name x pos) (fun δ d => δ[i]? = some (some d)) :=
  ⟨_, quiet_var hN hv hd hcd, fun K H σ δ d h e => h.2 i d e⟩
end
/-- what an error must be: no field, or the number of a row -/
def errIs (G : DH) (fv : Option Int) (o : Option Addr) : Prop := match fv, o with
  | none, none => True
  | some n, some d => G d = some (.xd [("row", .int n)])
  | _, _ => False
/-- which words, classes and numbers the def is right about -/
def spRefG (K : KT) (okc : Str → Addr → Option Int → Prop) (tl : XK → Hp → VK → Prop) : Sp := fun vs H Q _ => ∃ (w : Str) (C : Addr) (fv : Option Int) (v : V), vs = [.str w, v] ∧ okc w C fv ∧ (∀ n, fv = some n → v = .int n) ∧ ∀ Q' : VK,
  tl (fun cls o H' => cls = .ref C ∧ ∃ G', errIs G' fv o ∧ HRel K G' H' ∧ ∀ G2 H2, Sub G' G2 → Up H' H2 → HRel K G2 H2 → Q (.bl true) H2) H Q'
def dRefG (okc : Str → Addr → Option Int → Prop) (dt : DE) (d2 d3 : DS → D → Prop) : DE := fun δ G R _ => ∃ (w : Str) (C : Addr) (fv : Option Int) (v : D), d2 δ (.str w) ∧ d3 δ v ∧ okc w C fv ∧ (∀ n, fv = some n → v = .int n) ∧
  dt δ G (fun _ _ => False) (fun cls o G' => cls = .ref C ∧ errIs G' fv o ∧ ∀ G2, Sub G' G2 → R (.bl true) G2)
section
variable {X : Cx} {E : EK} {okc : Str → Addr → Option Int → Prop}
theorem pd_refG {x a a2 a3 : Str} {g c P : Addr} {k : Nat} {pg : Arguments} {bg : List Stmt} {sg : Scope} {fd : FuncData} {Ng : List Str} {d2 d3 : DS → D → Prop}
    {params : Arguments} {body e2 e3 : Expr} {scope : Scope} {dt : DE} {p lpos pos : Pos} (F : FunD X.K x x pg bg sg [] [] g fd) (hm : X.mg x = some (.ref g)) (Sg : FnScope Ng [a, a2, a3] sg)
    (hbg : ∀ (kV doc pm : Value) (an : Option Addr) (cdv ct : Value) (us : List Value), us.length = 3 → bindArgs (PySem.W.fnOf x x pg bg sg .none kV doc pm an cdv ct) ⟨us, []⟩ = pure (([a, a2, a3] : List Str).zip us))
    (hG : ∀ cdg : Value, Given X Ng [a, a2, a3] x a sg g cdg bg k (X.env.qual ++ "<lambda>") (spRefG (kt X E) okc)) (hx : Passes (L2N.CX X.prog X.w) X E.1) (q2 : QuietD X e2 d2) (q3 : QuietD X e3 d3)
    (TB : TabB X.base X.mg c P) (hcode : X.env.code = .ref c) (hmT : (P, X.env.qual ++ "<lambda>") ∈ E.2) (hu : ∀ p ∈ E.2, p.1 = P → p.2 = X.env.qual ++ "<lambda>") (hr : Room (k + 2) X.A) (L : LamS X.env.scope scope) (hdef : defaultsOf params X.env = ([], []))
    (hbind : ∀ (q : Str) (cl : List (Str × Addr)) (pm cv ctv : Value), bindArgs (PySem.W.kla_fn "<lambda>" q params body scope cl pm cv ctv) ⟨[], []⟩ = pure [])
    (hbody : ∀ (A : Around) (outer : List Env) (s : Shared) (H : Hp) (E' : XK) (f c' : Addr), Room k (A.deeper (lamEnv X scope s.heap.objs.size f c')) → PD (lamC X A outer s H E' scope f c') (E', E.2) body dt)
    (hg : Gl X x := by rfl) (hNg : Ng[0]? = some a := by rfl) (hva : Vis sg a := by first | exact .inl rfl | exact .inr (.inl rfl)) (hdb : (x == ("__debug__" : Str)) = false := by decide) (hd : (a == ("__debug__" : Str)) = false := by decide) (hcd : (a == ("__classdict__" : Str)) = false := by decide)
    (hse : backTo pos (starEach [e2, e3] X.env) = [(false, eval e2 X.env), (false, eval e3 X.env)] := by rfl) :
    PD X E (.Call (.Name x p) [.Lambda params body scope lpos, e2, e3] [] pos) (dRefG okc dt d2 d3) := by
  have hb := F.bindsN (ps := [a, a2, a3]) hbg
  have kp := F.kp
  obtain ⟨oc, od, dV, kV, doc, pm, an, cdv, ct, osl, rfl, lk, hcd2, hD, _⟩ := F.ex
  obtain ⟨t2, z2, r2⟩ := q2.ex
  obtain ⟨t3, z3, r3⟩ := q3.ex
  refine ⟨imE (pe_give (T := E.2) (E := E.1) (t := fun E' => up (kt X E) E' dt) (sp := spRefG (kt X E) okc) hg hm kp lk hcd2 hb Sg hNg hva (hG cdv) hx z2 z3 TB hcode hmT hu hr L hdef hbind (fun A outer s H E' f c' hr' => (hbody A outer s H E' f c' hr').pe) hdb hd hcd hse) fun σ H Q ⟨δ, G, R, EX, sr, hG0, ⟨w, C, fv, v, k2, k3, oc2, hf, h⟩, cr, cx⟩ => ?_⟩
  obtain ⟨v2, m2, e2⟩ := r2 _ H σ δ _ sr k2
  obtain ⟨v3, m3, e3⟩ := r3 _ H σ δ _ sr k3
  cases e2
  refine ⟨hG0.t, _, v3, m2, m3, fun H1 ex tb => ⟨w, C, fv, v3, rfl, oc2, fun n e => ?_, fun Q' => ?_⟩⟩
  · rw [hf n e] at e3
    cases e3
    rfl
  · have u1 := extN_up ex
    refine ⟨δ, G, _, _, sr.up u1, extN_h hG0 ex tb, h, fun v H' d G' _ _ _ z => z.elim, fun cls o H' G' u h' ⟨e1, e2, z⟩ => ⟨e1, G', e2, h', fun G2 H2 s u2 h2 => cr _ _ _ _ ((u1.trans u).trans u2) h2 (.bl true) (z G2 s)⟩⟩
end
end Cc
/-! ### k17: numbers alike, asked within an except clause -/
namespace K17
open PySem PySem.Spec PyProof.Rows L2 Cc
abbrev s_al : Stmt := top 31
abbrev N_al : List Str := ["_law_found", "_law_due", "_law_k"]
theorem sc_al : FnScope N_al ["_law_found", "_law_due"] (defScope s_al) := ⟨rfl, rfl, rfl, by decide +kernel, rfl, by decide +kernel, by decide +kernel⟩
def never : DE := fun _ _ _ _ => False
theorem pdss_never {X : Cx} {E : EK} {st : List Stmt} : PDSs X E st (fun _ _ _ => False) := ⟨⟨fun pins s σ H Q I ⟨_, _, _, _, _, h, _⟩ => h.elim⟩⟩
def b_alH : DSt := (sSeq (sIf (dTest (dOp dIsN (dVar 1) (dC .non))) (sRet never) sNext)
  (sSeq (sIf (dTest (dCB dIsi (dCons (dVar 1) (dCons (dC (.ty "bool")) dNil)))) (sRet never) sNext)
  (sSeq (sIf (dTest (dCB dIsi (dCons (dVar 1) (dCons (dC (.ty "int")) dNil)))) (sRet (dAndV (dCB dIsi (dCons (dVar 0) (dCons (dC (.ty "int")) dNil))) (dAndV (dNotV (dCB dIsi (dCons (dVar 0) (dCons (dC (.ty "bool")) dNil)))) (dOp dEq (dVar 0) (dVar 1))))) sNext)
  (fun _ _ _ => False))))
section
variable {P : Program} {w : World} {K : PySem.W.Frag} {T : List (Addr × Str)} {mg : Str → Option Value} {base : Heap}
theorem bd_alH (fi : mg "isinstance" = none) (fb : mg "bool" = none) (fn : mg "int" = none) {f : Addr} {cdv : Value} {A : Around} {outer : List Env} {s : Shared} {H : Hp} {E : XK} {p : Addr × Obj} (hu : (L2H.cxH (L2N.CX P w) P w K mg base N_al "_law_alike" (defScope s_al) f cdv A outer s H E p).A.units + 64 < cLine) :
    PDSs (L2H.cxH (L2N.CX P w) P w K mg base N_al "_law_alike" (defScope s_al) f cdv A outer s H E p) (E, T) (defBody s_al) b_alH := by
  have nd : (N_al).Nodup := sc_al.nd
  exact (pdss_cons (pds_if (pdt_cp od_isN (pd_var 1 (pv 1)) pd_non) (pdss_one (pds_ret pd_never)) pdss_nil)
    (pdss_cons (pds_if (pdt_val (pd_blt cd_isi fi (by decide +kernel) (pda_cons (pd_var 1 (pv 1)) (pda_cons (pd_ty fb (by decide +kernel)) pda_nil)))) (pdss_one (pds_ret pd_never)) pdss_nil)
    (pdss_cons (pds_if (pdt_val (pd_blt cd_isi fi (by decide +kernel) (pda_cons (pd_var 1 (pv 1)) (pda_cons (pd_ty fn (by decide +kernel)) pda_nil))))
      (pdss_one (pds_ret (pd_and (pd_blt cd_isi fi (by decide +kernel) (pda_cons (pd_var 0 (pv 0)) (pda_cons (pd_ty fn (by decide +kernel)) pda_nil))) (pd_and (pd_not (pd_blt cd_isi fi (by decide +kernel) (pda_cons (pd_var 0 (pv 0)) (pda_cons (pd_ty fb (by decide +kernel)) pda_nil)))) (pd_one (pd_cp (od_eq hu) (pd_var 0 (pv 0)) (pd_var 1 (pv 1)))))))) pdss_nil) pdss_never)))
/-- two same numbers -/
def sdAlI : SpD := fun ds G R _ => ∃ n : Int, ds = [.int n, .int n] ∧ R (.bl true) G
theorem pure_alI (ds : List D) (G : DH) (R : DK) (EX : DX) (h : sdAlI ds G R EX) : b_alH (endsD R EX) (startD N_al ds) G := by
  obtain ⟨n, rfl, q⟩ := h
  show b_alH (endsD R EX) [some (.int n), some (.int n), none] G
  unfold b_alH
  simp only [sSeq, sIf, sNext, dTest, dOp, dVar, dC, dIsN, D.isN, List.getElem?_cons_zero, List.getElem?_cons_succ, blD_bl, Bool.false_eq_true, if_false]
  simp only [dCB, dCons, dNil, dVar, dC, List.getElem?_cons_zero, List.getElem?_cons_succ]
  refine isi_ty (t := "int") (T := "bool") (b := false) rfl (by decide +kernel) ?_
  simp only [blD_bl, Bool.false_eq_true, if_false]
  refine isi_ty (t := "int") (T := "int") (b := true) rfl (by decide +kernel) ?_
  simp only [blD_bl, if_true, sRet, dAndV, dNotV, dCB, dCons, dNil, dVar, dC, List.getElem?_cons_zero, List.getElem?_cons_succ]
  refine isi_ty (t := "int") (T := "int") (b := true) rfl (by decide +kernel) ?_
  simp only [blD_bl, if_true]
  refine isi_ty (t := "int") (T := "bool") (b := false) rfl (by decide +kernel) ?_
  simp only [blD_bl, if_true, Bool.not_false, dOp, dVar, List.getElem?_cons_zero, List.getElem?_cons_succ, dEq_int, decide_true]
  exact q
theorem fnH_al (fi : mg "isinstance" = none) (fb : mg "bool" = none) (fn : mg "int" = none) {f : Addr} {fd : FuncData} {k : Nat} (Fd : FunD K "_law_alike" "_law_alike" (defArgs s_al) (defBody s_al) (defScope s_al) [] [] f fd) :
    L2H.FnH P w K mg base (L2N.CX P w) (k + 1) f fd ["_law_found", "_law_due"] (upF (K, T) sdAlI) := by
  obtain ⟨oc, od, dV, kV, doc, pm, an, cdv, ct, osl, rfl, lk, hcd, _, _⟩ := Fd.ex
  refine L2H.fn_ofH lk hcd sc_al (fun vs H Q E ⟨ds, G, R, EX, dv, hr, h, cr, cx⟩ => dv.length.trans (by obtain ⟨n, e, _⟩ := h; rw [e]; rfl)) fun A outer s H vs Q E p hot hr ⟨ds, G, R, EX, dv, hG, h, cr, cx⟩ => ?_
  refine ⟨upS (K, T) E b_alH, (bd_alH (T := T) fi fb fn ?_).ps, startD N_al ds, G, endsD R EX, srel_start dv, hG, pure_alI ds G R EX h, fun σ' H' δ' G' u s2 h2 q => cr _ _ _ _ u h2 .non q, cr, fun _ _ _ _ _ _ _ q => q.elim, fun _ _ _ _ _ _ _ q => q.elim, cx⟩
  have := hr.un
  show (A.deeper _).units + 64 < cLine
  omega
end
end K17
/-! ### isinstance of a caught error with fields -/
namespace PySem.W
open PySem PySem.Spec PySem.Calls PyProof.Rows
section
variable {P : Program} {w : World} {A : Around} {E : Value → Shared → Prop} {s : Shared} {K : Frag} {x D : Addr} {ox : Obj} {d : Option Obj}
/-- what is looked at, whatever the error's dict -/
structure ExcD (K : Frag) (D : Addr) (d : Option Obj) : Prop where
  c : L2.ExcC K D
  f : findObj K D d "__class__" = some (.bind (.builtin "getset_descriptor.__get__") (.builtin "object.__class__"))
theorem class_of_exc {Q : Option Value → Shared → Prop} (c : ExcD K D d) (X : K.In s.heap) (I : InstAt s.heap x ox D d) (q : Q (some (.ref D)) { s with toks := s.toks + 1 }) : wpAny (model P w) A (getAttr? (.ref x) "__class__") Q E s := by
  obtain ⟨m, gs, dr, tk, os⟩ := s
  have hty := I.type (M := model P w)
  have h1 := looks_findIn (M := model P w) X c.c.hg
  have h2 := looks_findIn (M := model P w) X c.c.hk
  have h3 := looks_find (M := model P w) X I c.f
  have hsb : Looks (model P w) m (isInstance (.ref x) (.type "BaseException")) true := hty.andThen (looks_subIn X c.c.hs)
  have n0 : (false && onTheHeap (Value.builtin "BaseException.__getattribute__")) = false := rfl
  have n1 : (Value.builtin "BaseException.__getattribute__" == Value.builtin "object.__getattribute__") = false := by decide +kernel
  have n2 : (onTheHeap (Value.ref D) && Value.builtin "BaseException.__getattribute__" == Value.builtin "object.__getattribute__") = false := by rw [n1]; rfl
  unfold getAttr? getAttrBy? getAttrBy
  refine wpAny_bind (wpAny_mkText (wpAny_bind (wpAny_attempt (wpAny_holding (wpAny_bind (hty.at (wpAny_bind (h1.at ?_))))))))
  show wpAny _ _ (if (onTheHeap (Value.ref D) && Value.builtin "BaseException.__getattribute__" == Value.builtin "object.__getattribute__") = true then _ else _) _ _ _
  rw [n2, if_neg Bool.false_ne_true]
  unfold getAttrByItsOwn hookBefore
  refine wpAny_bind ?_
  rw [if_pos (show onTheHeap (Value.ref D) = true from rfl)]
  refine h2.at (wpAny_bind (wpAny_attempt (wpAny_holding ?_)))
  unfold callGetattribute
  rw [n0, if_neg Bool.false_ne_true]
  unfold boundAndCalled
  rw [PySem.F.excAttr_ValueError.ga.bind (.ref x)]
  refine wpAny_bind (wpAny_pure ?_)
  show wpAny _ _ (call (.builtin "BaseException.__getattribute__") [.ref x, .str "__class__" tk]) _ _ _
  refine wpAny_call (codeAny_call_builtin PySem.F.excAttr_ValueError.ga.plain PySem.F.entry_bexc_ga (@check_slot (model P w) _ _ ⟨m, gs, dr, tk + 1, os⟩ "BaseException.__getattribute__" "BaseException" "__getattribute__" (.ref x) [.str "__class__" tk] [] _ (by decide +kernel) (by decide +kernel) hsb (PySem.F.args_bexc_ga (.ref x) (.str "__class__" tk)) ?_))
  unfold Builtin.«object.__getattribute__»
  refine wpAny_bind (wpAny_of_eq (a := ((Value.ref x : Value), [Value.str "__class__" tk])) (by first | rfl | (simp only [slotArgs]; rfl)) (wpAny_bind (wpAny_pure (wpAny_bind (hty.at (wpAny_bind (h3.at ?_)))))))
  show wpAny _ _ (holding [Value.builtin "object.__class__"] (call (.builtin "getset_descriptor.__get__") [.builtin "object.__class__", .ref x, .ref D]) >>= ret) _ _ _
  refine wpAny_bind (wpAny_holding (wpAny_call (class_get (s := ⟨m, gs, dr, tk + 1, os⟩) (ox := ox) (od := d) X I c.c.hm (wpAny_pure ?_))))
  show wpAny _ _ (handedOut (.ref D)) _ _ _
  rw [handedOut_of (v := .ref D) rfl]
  first
    | exact wpAny_pure (wpAny_pure q)
    | exact wpAny_pure q
    | exact wpAny_pure (wpAny_bind (wpAny_pure (wpAny_pure q)))
theorem excD_of (c : L2.ExcC K D) : ExcD K D d := ⟨c, by
  obtain ⟨cd, hc, _⟩ := any_some c.hd
  unfold findObj
  rw [hc, Option.bind_some, c.ha, Option.bind_some]
  simp [c.hn, c.ht]⟩
theorem kitx_excD (c : L2.ExcC K D) : KitX K (.ref x) (.ref D) (fun h => InstAt h x ox D d) where
  ty := fun _ _ _ I => I.type
  it := fun M h X _ => by
    obtain ⟨cd, hc, _⟩ := any_some c.hd
    unfold clsIn at hc
    split at hc
    · rename_i u1 u2 u3 u4 look
      intro A2 Q2 E2 s2 keep q
      unfold isType loadHead
      refine wpAny_bind (wpAny_loadPart (keep _ _ (X _ _ look)) ?_)
      exact wpAny_pure q
    · cases hc
  ne := (handS_kitx_exc (x := x) (ox := ox) c.hg c.hk c.hs c.hd c.ha c.hn c.ht c.hm).ne
  ca := fun X I k => class_of_exc (excD_of c) X I k
end
end PySem.W
namespace L2
open PySem PySem.Spec PyProof.Rows
/-- isinstance(e, c), e the error that the suite holds, with its dict -/
def rIsED (K : PySem.W.Frag) (D a dd : Addr) : List V → Hp → VK → Prop := fun xs H Q => ∃ (c : V) (cv : Value) (b : Bool) (fs : List (Str × V)), xs = [.ref a, c] ∧ (∀ u, RelV c u → u = cv) ∧ PySem.W.kitOne K (.ref D) cv = some b ∧ H dd = some (.xd fs) ∧ Q (.bl b) H
theorem call_isED {X : Cx} {a D dd : Addr} {oe : Obj} {pn : List (Addr × Obj)} (C : ExcC X.K D) (hz : Zc (.ref D) (some dd) oe) (hf : ∃ vs, oe.data = .fields vs) : CallR (X.suite a ((a, oe) :: pn)) (.builtin "isinstance") (rIsED X.K D a dd) := by
  intro pins s σ H xs us Q I r h
  obtain ⟨c, cv, b, fs, rfl, hcv, e, hx, q⟩ := h
  obtain ⟨u1, u2, rfl, rx, rt⟩ := vals2 r
  cases rx
  have ec := hcv _ rt
  subst ec
  have at_ := (I.pin (a, oe) (List.mem_append_left _ List.mem_cons_self)).1
  obtain ⟨vs, hv⟩ := hf
  obtain ⟨mA, hns, _⟩ := (show ObjOk X.prog X.w H s.heap dd (.xd fs) from I.hok dd _ hx)
  obtain ⟨od, ho, _⟩ := lookIn_ns hns
  have J : PySem.W.InstAt s.heap a oe D (some od) := ⟨at_, hz.1, by unfold PySem.W.notCls; rw [hv] <;> rfl, by rw [hz.2]; exact ho⟩
  exact PySem.W.kia_one (PySem.W.kitx_excD C) I.kIn J e (fun z => nomatch z) fun tk => ⟨.bl b, H, I.kept (t' := tk) fun _ _ z => z, rfl, q⟩
end L2
/-! ### an error with fields in an except suite, on data -/
namespace Cc
open PySem PySem.Spec PyProof.Rows L2
/-- isinstance(e, c): e stands at a, its class is C, its dict at dd -/
def dIsED (K : PySem.W.Frag) (a C dd : Addr) : DC := fun xs G R => match xs with
  | [.ref x, c] => x = a ∧ (∃ fs, G dd = some (.xd fs)) ∧ ∃ cv b, isV c = some cv ∧ PySem.W.kitOne K (.ref C) cv = some b ∧ R (.bl b) G
  | _ => False
theorem cd_isED {X : Cx} {a C dd : Addr} {oe : Obj} {pn : List (Addr × Obj)} (hC : ExcC X.K C) (hz : Zc (.ref C) (some dd) oe) (hf : ∃ vs, oe.data = .fields vs) : CD (X.suite a ((a, oe) :: pn)) (.builtin "isinstance") (dIsED X.K a C dd) :=
  ⟨_, call_isED hC hz hf, fun T x H d G R Q hr r q cr => by
    unfold dIsED at q
    split at q
    · obtain ⟨rfl, ⟨fs, eg⟩, cv, b, e1, e2, q⟩ := q
      obtain ⟨ys, ey, _⟩ := hr _ _ eg
      cases r with
      | cons r1 r =>
        cases r with
        | cons r2 r =>
          cases r
          cases r1
          exact ⟨_, cv, b, ys, rfl, isV_of r2 e1, e2, ey, cr _ _ _ _ (Up.refl H) hr (.bl b) q⟩
    · exact False.elim q⟩
/-- e.f -/
def dXf (a dd : Addr) (n : Str) (de : DE) : DE := fun δ G R EX => de δ G (fun x G1 => x = .ref a ∧ ∃ fs v, G1 dd = some (.xd fs) ∧ fs.lookup n = some v ∧ R v G1) EX
theorem pd_xf {X : Cx} {T : EK} {a C dd : Addr} {oe : Obj} {pn : List (Addr × Obj)} {e : Expr} {de : DE} {pos : Pos} {n : Str} (hC : XfC X.K C) (no : PySem.W.findIn X.K (.ref C) n = some none) (hz : Zc (.ref C) (some dd) oe) (hf : ∃ vs, oe.data = .fields vs)
    (he : PD (X.suite a ((a, oe) :: pn)) T e de) (hb : attributeBase e n X.env (eval e X.env) = eval e X.env := by rfl) : PD (X.suite a ((a, oe) :: pn)) T (.Attribute e n pos) (dXf a dd n de) :=
  ⟨imE (pe_xf hC no hz hf he.pe hb) fun σ H Q ⟨δ, G, R, EX, sr, hr, h, cr, cx⟩ => ⟨δ, G, _, EX, sr, hr, h, fun v H1 x G1 u1 h1 r1 ⟨ex, fs, y, eg, el, q⟩ => by
    subst ex
    cases r1
    obtain ⟨ys, ey, ry⟩ := h1 _ _ eg
    obtain ⟨z, ez, rz⟩ := ry.fld el
    exact ⟨rfl, rfl, dd, ys, z, rfl, ey, ez, cr _ _ _ _ u1 h1 rz q⟩, cx⟩⟩
/-- a def of the module within an except suite, one that lets nothing out -/
def dCallN (sd : SpD) (dl : DA) : DE := fun δ G R EX => dl δ G (fun xs G1 => sd xs G1 R noX) EX
theorem pd_callH {X : Cx} {E : EK} {f : Addr} {fd : FuncData} {k : Nat} {ps : List Str} {sd : SpD} {x : Str} {e : Expr} {es : List Expr} {dl : DA} {q pos : Pos} (F : L2H.FnH X.prog X.w X.K X.mg X.base (L2N.CX X.prog X.w) k f fd ps (upF (kt X E) sd)) (hr : L2H.RoomH k X.A) (hc : L2H.HotC X) (hm : X.mg x = some (.ref f)) (hk : PySem.W.keepIn X.K (.ref f) = true) (hb : Binds X.K fd ps [])
    (ha : PDA X E (e :: es) dl) (hg : Gl X x := by rfl) (hdb : (x == ("__debug__" : Str)) = false := by decide) (he : starEach (e :: es) X.env = (false, eval e X.env) :: starEach es X.env := by rfl) (hpl : (backTo pos (starEach es X.env)).any (·.1) = false := by rfl) :
    PD X E (.Call (.Name x q) (e :: es) [] pos) (dCallN sd dl) :=
  ⟨imE (L2H.pe_callH (E := fun _ _ _ _ => False) F hr hc hg hm hk hb (fun σ pins H s e s' I c => passN pins σ H s e s' I c) ha.pa hdb he hpl) fun σ H Q ⟨δ, G, R, EX, sr, hG, h, cr, cx⟩ => ⟨δ, G, _, EX, sr, hG, h, fun xs H1 ds G1 u1 h1 r1 q1 => ⟨ds, G1, R, noX, r1, h1, q1, cr.up u1, fun _ _ _ _ _ _ z => z.elim⟩, cx⟩⟩
end Cc
/-! ### the end: facts of the top, the law's promise -/
namespace Cc
open PySem PySem.Spec PyProof.Rows L2
def sdLaw : SpD := fun ds G R _ => ∃ x ns, ds = [x] ∧ seqI G x ns ∧ ns.length ≤ 63 ∧ ∀ G', R (.bl true) G'
theorem dvl_ints {K : KT} {H : Hp} : ∀ ns : List Int, DvL K H (ns.map V.int) (ns.map D.int)
  | [] => .nil
  | n :: ns => .cons (.int n) (dvl_ints ns)
theorem sdLaw_end {K : PySem.W.Frag} {T : List (Addr × Str)} {cs : List (Addr × Addr)} (hT : ∀ p ∈ T, ∃ q ∈ cs, q.2 = p.1) {H : Hp} {a : Addr} {ns : List Int} (hn : ns.length ≤ 63) (hc : ∀ p ∈ cs, H p.2 = some (.tbl #[])) (hs : SqL K H a (ns.map V.int)) :
    upF (K, T) sdLaw [.ref a] H (fun v _ => v = .bl true) fun _ _ _ => False := by
  have tabs : LamX.Tabs T H := fun p hp => by
    obtain ⟨q, hq, e⟩ := hT p hp
    exact LamX.TabS.nil (by rw [← e]; exact hc q hq)
  have key : ∀ (x : D) (G : DH), Dv (K, T) H (.ref a) x → HRel (K, T) G H → seqI G x ns → upF (K, T) sdLaw [.ref a] H (fun v _ => v = .bl true) fun _ _ _ => False := fun x G d hr s =>
    ⟨[x], G, fun d _ => d = .bl true, fun _ _ _ => False, .cons d .nil, hr, ⟨x, ns, rfl, s, hn, fun _ => rfl⟩, fun v H' d G' _ _ r e => by
      subst e
      cases r
      rfl, fun _ _ _ _ _ _ h => h⟩
  rcases hs with (hs | ⟨o, hs⟩) | hs
  · refine key (.ref a) (updD (fun _ => none) a (.lst (ns.map D.int))) (.ref a) ⟨fun b c e => ?_, tabs⟩ (.inr ⟨a, rfl, updD_same⟩)
    by_cases hb : b = a
    · subst hb
      rw [updD_same] at e
      cases e
      exact ⟨_, hs, dvl_ints ns⟩
    · rw [updD_ne hb] at e
      cases e
  · exact key (.rol (ns.map D.int)) (fun _ => none) (.rol ⟨o, hs⟩ (dvl_ints ns)) ⟨(fun b c e => nomatch e), tabs⟩ (.inl (.inl rfl))
  · exact key (.wol (ns.map D.int)) (fun _ => none) (.wol (.inr hs) (dvl_ints ns)) ⟨(fun b c e => nomatch e), tabs⟩ (.inl (.inr rfl))
theorem cx_end {P : Program} {w : World} {H : Hp} {s : Shared} {e : Value} {s' : Shared} : L2N.CX P w [] H s (fun _ _ _ => False) e s' → False := fun ⟨_, _, _, _, _, _, _, _, _, _, _, _, h⟩ => h
section
variable {P : Program} {w : World} {K : PySem.W.Frag} {T : List (Addr × Str)} {cv : Value → Prop} {mg : Str → Option Value} {base h : Heap} {N ps : List Str} {x : Str} {k : Nat} {sb : DSt} {sd : SpD} {fa : List He.Fa} {fn : List He.DefD} {d : He.DefD}
theorem defAt (c : He.SaysD fa fn K) (hd : d ∈ fn) (h1 : d.dfl = []) (h2 : d.kwd = []) : ∃ fd, FunD K d.name d.qual d.params d.body d.scope [] [] (He.fAd K d.at_) fd ∧ fd.code = .ref (He.codeOf K d.at_) := by
  obtain ⟨fd, F⟩ := c.defs hd
  have e1 : d.dvs K = [] := by unfold He.DefD.dvs; rw [h1]; rfl
  have e2 : d.kws K = [] := by unfold He.DefD.kws; rw [h2]; rfl
  rw [e1, e2] at F
  refine ⟨fd, F, ?_⟩
  obtain ⟨oc, od, dV, kV, doc, pm, an, cdv, ct, osl, rfl, lk, hcd, _, _⟩ := F.ex
  obtain ⟨cc, e⟩ := He.codeIn_ref hcd
  subst e
  rw [He.codeOf_eq lk rfl]
theorem mkFn (X : K.In h) (G : h.Ns mainGlobals mg) (c : He.SaysD fa fn K) (hd : d ∈ fn) (hx : d.at_ = (x, none)) (h1 : d.dfl = []) (h2 : d.kwd = []) (hg : He.Fa.glo x ∈ fa) (S : FnScope N ps d.scope) (hcv : cv (.ref (He.codeOf K (x, none))))
    (len : ∀ ds G R EX, sd ds G R EX → ds.length = ps.length) (B : BodyD P w K T cv mg base N d.qual d.scope d.body k sb) (hp : ∀ ds G R EX, sd ds G R EX → sb (endsD (frg R) EX) (startD N ds) G)
    (hb : ∀ (kV doc pm : Value) (an : Option Addr) (cdv ct : Value) (us : List Value), us.length = ps.length → bindArgs (PySem.W.fnOf d.name d.qual d.params d.body d.scope .none kV doc pm an cdv ct) ⟨us, []⟩ = pure (ps.zip us)) :
    Fn P w (K, T) mg base x (k + 1) ps sd := by
  obtain ⟨fd, F, e⟩ := defAt c hd h1 h2
  rw [hx] at F e
  exact ⟨_, fd, okF F S (by rw [e]; exact hcv) len B hp, He.glo_ok X G (c.facts hg), F.kp, F.bindsN hb⟩
theorem glo_str (X : K.In h) (G : h.Ns mainGlobals mg) {x z : Str} (c : (He.Fa.str x z).ok K = true) : GloC K mg x (.str z) := by
  obtain ⟨t, e⟩ := He.str_ok X G c
  exact ⟨.str z, _, e, ⟨t, rfl⟩, fun _ _ => .str z⟩
theorem glo_int (X : K.In h) (G : h.Ns mainGlobals mg) {x : Str} {i : Int} (c : (He.Fa.int x i).ok K = true) : GloC K mg x (.int i) := by
  obtain ⟨t, e⟩ := He.int_ok X G c
  exact ⟨.int i, _, e, ⟨t, rfl⟩, fun _ _ => .int i⟩
theorem glo_tup (X : K.In h) (G : h.Ns mainGlobals mg) {x : Str} (vs : List He.Dv) (l : List D) (c : (He.Fa.glo x).ok K = true) (t : He.tupB K x vs = true) (hv : ∀ T H, DvL (K, T) H (vs.map (He.Dv.v K)) l) : GloC K mg x (.tup l) :=
  ⟨.ref (He.ga K x), _, He.glo_ok X G c, rfl, fun T H => .tup (He.tupB_ok t H) (hv T H)⟩
end
/-- a promise of nothing -/
theorem mkFn0 {P : Program} {w : World} {K : PySem.W.Frag} {T : List (Addr × Str)} {mg : Str → Option Value} {base h : Heap} {ps : List Str} {x : Str} {k : Nat} {sd : SpD} {fa : List He.Fa} {fn : List He.DefD} {d : He.DefD} (X : K.In h) (G : h.Ns mainGlobals mg) (c : He.SaysD fa fn K) (hd : d ∈ fn) (hx : d.at_ = (x, none)) (h1 : d.dfl = []) (h2 : d.kwd = []) (hg : He.Fa.glo x ∈ fa) (no : ∀ ds G R EX, ¬ sd ds G R EX)
    (hb : ∀ (kV doc pm : Value) (an : Option Addr) (cdv ct : Value) (us : List Value), us.length = ps.length → bindArgs (PySem.W.fnOf d.name d.qual d.params d.body d.scope .none kV doc pm an cdv ct) ⟨us, []⟩ = pure (ps.zip us)) :
    Fn P w (K, T) mg base x k ps sd := by
  obtain ⟨fd, F, e⟩ := defAt c hd h1 h2
  rw [hx] at F e
  exact ⟨_, fd, ⟨fun vs H Q E ⟨ds, G, R, EX, _, _, h, _⟩ => (no _ _ _ _ h).elim, fun A outer s H args us vs Q E _ _ _ _ ⟨ds, G, R, EX, _, _, h, _⟩ => (no _ _ _ _ h).elim⟩, He.glo_ok X G (c.facts hg), F.kp, F.bindsN hb⟩
theorem pure_offF (ds : List D) (G : DH) (R : DK) (EX : DX) (h : sd__law_off ds G R EX) : b__law_off (endsD (frg R) EX) (startD N__law_off ds) G := by
  obtain ⟨a, m, l, e, h1, h2, h3, h4, q⟩ := h
  exact pure_off ds G (frg R) EX ⟨a, m, l, e, h1, h2, h3, h4, fun r l' a b c e => frg_of (q r l' a b c e)⟩
theorem len_off (ds : List D) (G : DH) (R : DK) (EX : DX) (h : sd__law_off ds G R EX) : ds.length = 2 := by
  obtain ⟨a, m, l, rfl, _⟩ := h
  rfl
theorem len_dice (ds : List D) (G : DH) (R : DK) (EX : DX) (h : sd__law_dice ds G R EX) : ds.length = 2 := by
  obtain ⟨a, m, l, rfl, _⟩ := h
  rfl
theorem len_alike (k : Nat) (ds : List D) (G : DH) (R : DK) (EX : DX) (h : sd__law_alike (k + 1) ds G R EX) : ds.length = 2 := by
  obtain ⟨a, m, l, rfl, _⟩ := h
  rfl
theorem len_law (ds : List D) (G : DH) (R : DK) (EX : DX) (h : sdLaw ds G R EX) : ds.length = 1 := by
  obtain ⟨a, m, rfl, _⟩ := h
  rfl
/-- the law's walk, from its promise at the head's heap -/
theorem law_at {l : PySem.W.OpenLaw} {P : Program} (hP : l.prog = P) {w : World} {K : PySem.W.Frag} {mg : Str → Option Value} {fa : List He.Fa} {fn : List He.DefD} {ts : List He.Tab} {tf : List He.Defn} {ex : PySem.W.Frag → Bool} {h : Heap} {fadr : Addr} {k : Nat} {x : Str} {T : List (Addr × Str)} {d : He.DefD}
    (X : K.In h) (Y : He.SaysX fa fn ts tf ex w h K) (G : h.Ns mainGlobals mg) (hm : mg "law" = some (.ref fadr)) (hd : d ∈ fn) (hx : d.at_ = (("law" : Str), none)) (h1 : d.dfl = []) (h2 : d.kwd = []) (hg : He.Fa.glo "law" ∈ fa)
    (hT : ∀ p ∈ T, ∃ q ∈ tf, (He.cT K q).2 = p.1)
    (hb : ∀ (kV doc pm : Value) (an : Option Addr) (cdv ct : Value) (us : List Value), us.length = 1 → bindArgs (PySem.W.fnOf d.name d.qual d.params d.body d.scope .none kV doc pm an cdv ct) ⟨us, []⟩ = pure ([x].zip us))
    (F : ∀ base : Heap, K.In base → base.Ns mainGlobals mg → (∀ q ∈ tf, LamX.TabB base mg (He.cT K q).1 (He.cT K q).2) → ∀ fd, FunD K d.name d.qual d.params d.body d.scope [] [] (He.ga K "law") fd → FnOk P w K mg base (L2N.CX P w) k (He.ga K "law") fd [x] (upF (K, T) sdLaw)) : LamX.LawAtS l w K (L2N.CX P w) k 63 x mg fadr h := by
  subst hP
  obtain ⟨fd, Fd, e⟩ := defAt Y.t.d hd h1 h2
  rw [hx] at Fd e
  have em := hm.symm.trans (He.glo_ok X G (Y.t.d.facts hg))
  cases em
  refine ⟨fd, tf.map (He.cT K), upF (K, T) sdLaw, fun p hp => ?_, fun p hp => ?_, fun p hp => ?_, fun s u => Fd.bindsA (ps := [x]) hb s [u] rfl, fun H a ns hn _ hc hs => sdLaw_end (cs := tf.map (He.cT K)) (fun p hp => ?_) hn hc hs, fun base Xb Gb TBs => ?_⟩
  · obtain ⟨q, hq, rfl⟩ := List.mem_map.mp hp
    exact Y.empty q hq
  · obtain ⟨q, hq, rfl⟩ := List.mem_map.mp hp
    exact Y.out q hq
  · obtain ⟨q, hq, rfl⟩ := List.mem_map.mp hp
    exact PySem.W.codeHd_of_K X (Y.hd q hq)
  · obtain ⟨q, hq, e⟩ := hT p hp
    exact ⟨_, List.mem_map.mpr ⟨q, hq, rfl⟩, e⟩
  · exact F base Xb Gb (fun q hq => TBs _ (List.mem_map.mpr ⟨q, hq, rfl⟩)) fd Fd
end Cc
/-! ### k17: _law_refused -/
namespace K17
open PySem PySem.Spec PyProof.Rows L2 Cc
abbrev s_ref : Stmt := top 33
abbrev N_ref : List Str := ["_law_work", "_law_word", "_law_value", "_law_kinds", "_law_words", "_law_one", "e"]
theorem sc_ref : FnScope N_ref ["_law_work", "_law_word", "_law_value"] (defScope s_ref) := ⟨rfl, rfl, rfl, by decide +kernel, rfl, by decide +kernel, by decide +kernel⟩
structure TxR (K : PySem.W.Frag) (mg : Str → Option Value) where
  aE : Addr
  aH : Addr
  aP : Addr
  aW : Addr
  aM : Addr
  aL : Addr
  aT : Addr
  cE : mg "CallError" = some (.ref aE)
  cH : GloC K mg "BadHand" (.ref aH)
  cP : GloC K mg "BadPlan" (.ref aP)
  cW : GloC K mg "BadWord" (.ref aW)
  cM : GloC K mg "NoMeeting" (.ref aM)
  cL : GloC K mg "BadLetter" (.ref aL)
  cT : GloC K mg "BadText" (.ref aT)
  f_isinstance : mg "isinstance" = none
  f_ValueError : mg "ValueError" = none
def isE (K : PySem.W.Frag) (a C : Addr) (c : D) : DE := dCB (dIsE K a C) (dCons (dVar 6) (dCons (dC c) dNil))
def b_suite (K : PySem.W.Frag) (a C aH aP aW aM aL aT : Addr) : DSt :=
  (sSeq (sAsg (dLst (dCons (isE K a C (.ref aH)) (dCons (isE K a C (.ref aP)) (dCons (isE K a C (.ref aW)) (dCons (isE K a C (.ref aM)) dNil))))) (gN 3))
  (sSeq (sAsg (dOp dAdd (dVar 3) (dLst (dCons (isE K a C (.ref aL)) (dCons (isE K a C (.ref aT)) dNil)))) (gN 3))
  (sSeq (sAsg (dLst (dCons (dC (.str "hand")) (dCons (dC (.str "plan")) (dCons (dC (.str "word")) (dCons (dC (.str "meeting")) (dCons (dC (.str "letter")) (dCons (dC (.str "text")) dNil))))))) (gN 4))
  (sSeq (sIf (dOr (dNot (dTest (isE K a C (.ty "ValueError")))) (dTest (dOp dNe (dVar 3) (dHot (dVar 4) (gN 5) (dOp dEq (dVar 1) (dVar 5)) [5])))) (sRet (dC (.bl false))) sNext)
  (sRet (dOrV (dOp dNe (dVar 1) (dC (.str "text"))) (fun _ _ _ _ => False)))))))
/-- the except clause's suite -/
def suiteOf : Stmt → List Stmt
  | .Try _ [.ExceptHandler _ _ b _] _ _ _ => b
  | _ => []
abbrev suite : List Stmt := suiteOf ((defBody s_ref).getD 0 (.Pass ⟨0, 0, 0, 0⟩))
section
variable {X : Cx} {g : Addr} {cdg : Value} {s : Shared} {H : Hp} {E : XK} {T : List (Addr × Str)}
theorem bd_suite (Tx : TxR X.K X.mg) {a C : Addr} {oe : Obj} {pn : List (Addr × Obj)} (hC : ExcC X.K C) (hz : L2N.Zn (.ref C) none oe) (hf : ∃ vs, oe.data = .fields vs) (hu : X.A.units + 200 < cLine) :
    PDSs ((gotC X N_ref "_law_refused" (defScope s_ref) g cdg s H E).suite a ((a, oe) :: pn)) (noE, T) suite (b_suite X.K a C Tx.aH Tx.aP Tx.aW Tx.aM Tx.aL Tx.aT) := by
  have nd : (N_ref).Nodup := sc_ref.nd
  have hi := cd_isE (X := gotC X N_ref "_law_refused" (defScope s_ref) g cdg s H E) (a := a) (pn := pn) hC hz.zc hf
  have hu2 : ((gotC X N_ref "_law_refused" (defScope s_ref) g cdg s H E).suite a ((a, oe) :: pn)).A.units + 64 < cLine := by
    show X.A.units + 3 + 64 < cLine
    omega
  have hot := hot_suite (X := gotC X N_ref "_law_refused" (defScope s_ref) g cdg s H E) (a := a) (pn := pn) hz hf
  exact (pdss_cons (pds_asg (pd_lst (pda_cons (pd_blt hi Tx.f_isinstance (by decide +kernel) (pda_cons (pd_var 6 (pv 6)) (pda_cons (pd_glob (by rfl) Tx.cH) pda_nil))) (pda_cons (pd_blt hi Tx.f_isinstance (by decide +kernel) (pda_cons (pd_var 6 (pv 6)) (pda_cons (pd_glob (by rfl) Tx.cP) pda_nil))) (pda_cons (pd_blt hi Tx.f_isinstance (by decide +kernel) (pda_cons (pd_var 6 (pv 6)) (pda_cons (pd_glob (by rfl) Tx.cW) pda_nil))) (pda_cons (pd_blt hi Tx.f_isinstance (by decide +kernel) (pda_cons (pd_var 6 (pv 6)) (pda_cons (pd_glob (by rfl) Tx.cM) pda_nil))) pda_nil))))) (pdg_name (i := 3) nd rfl (Or.inl rfl)))
    (pdss_cons (pds_asg (pd_bin od_add (pd_var 3 (pv 3)) (pd_lst (pda_cons (pd_blt hi Tx.f_isinstance (by decide +kernel) (pda_cons (pd_var 6 (pv 6)) (pda_cons (pd_glob (by rfl) Tx.cL) pda_nil))) (pda_cons (pd_blt hi Tx.f_isinstance (by decide +kernel) (pda_cons (pd_var 6 (pv 6)) (pda_cons (pd_glob (by rfl) Tx.cT) pda_nil))) pda_nil)))) (pdg_name (i := 3) nd rfl (Or.inl rfl)))
    (pdss_cons (pds_asg (pd_lst (pda_cons pd_str (pda_cons pd_str (pda_cons pd_str (pda_cons pd_str (pda_cons pd_str (pda_cons pd_str pda_nil))))))) (pdg_name (i := 4) nd rfl (Or.inl rfl)))
    (pdss_cons (pds_if (PDW.pdt (pdw_or (pdt_not (pdt_val (pd_blt hi Tx.f_isinstance (by decide +kernel) (pda_cons (pd_var 6 (pv 6)) (pda_cons (pd_ty Tx.f_ValueError (by decide +kernel)) pda_nil))))) (pdw_or1 (pdt_cp (od_ne hu2) (pd_var 3 (pv 3)) (pd_hot (own := [("_law_one", 5)]) hot nd (pd_var 4 (pv 4)) (blkOk_by (own := [("_law_one", 5)]) (N := N_ref) (sc := defScope s_ref) (by decide +kernel)) (blk_name (i := 5) (by decide) (fun _ _ _ _ _ => pg_name (i := 5) nd rfl (by first | exact Or.inl rfl | exact Or.inr rfl)) (fun _ _ _ _ _ => pdts_nil) (fun _ _ _ _ _ => pd_cp (od_eq hu2) (pd_var 1 (pv 1)) (pd_var 5 (pv 5)))))))))
      (pdss_one (pds_ret pd_bl)) pdss_nil)
    (pdss_one (pds_ret (pd_or (pd_cp (od_ne hu2) (pd_var 1 (pv 1)) pd_str) (pd_one pd_never))))))))
/-! the error with a row -/
def isED (K : PySem.W.Frag) (a C dd : Addr) (c : D) : DE := dCB (dIsED K a C dd) (dCons (dVar 6) (dCons (dC c) dNil))
def b_suiteT (K : PySem.W.Frag) (a C dd aH aP aW aM aL aT : Addr) : DSt :=
  (sSeq (sAsg (dLst (dCons (isED K a C dd (.ref aH)) (dCons (isED K a C dd (.ref aP)) (dCons (isED K a C dd (.ref aW)) (dCons (isED K a C dd (.ref aM)) dNil))))) (gN 3))
  (sSeq (sAsg (dOp dAdd (dVar 3) (dLst (dCons (isED K a C dd (.ref aL)) (dCons (isED K a C dd (.ref aT)) dNil)))) (gN 3))
  (sSeq (sAsg (dLst (dCons (dC (.str "hand")) (dCons (dC (.str "plan")) (dCons (dC (.str "word")) (dCons (dC (.str "meeting")) (dCons (dC (.str "letter")) (dCons (dC (.str "text")) dNil))))))) (gN 4))
  (sSeq (sIf (dOr (dNot (dTest (isED K a C dd (.ty "ValueError")))) (dTest (dOp dNe (dVar 3) (dHot (dVar 4) (gN 5) (dOp dEq (dVar 1) (dVar 5)) [5])))) (sRet (dC (.bl false))) sNext)
  (sRet (dOrV (dOp dNe (dVar 1) (dC (.str "text"))) (dCallN sdAlI (dCons (dXf a dd "row" (dVar 6)) (dCons (dVar 2) dNil)))))))))
theorem bd_suiteT (Tx : TxR X.K X.mg) {a C dd fa : Addr} {fda : FuncData} {oe : Obj} {pn : List (Addr × Obj)} (hC : ExcC X.K C) (hX : XfC X.K C) (no : PySem.W.findIn X.K (.ref C) "row" = some none) (hz : L2N.Zn (.ref C) (some dd) oe) (hf : ∃ vs, oe.data = .fields vs) (hu : X.A.units + 200 < cLine)
    (Fa : L2H.FnH X.prog X.w X.K X.mg X.base (L2N.CX X.prog X.w) 1 fa fda ["_law_found", "_law_due"] (upF (X.K, T) sdAlI)) (hma : X.mg "_law_alike" = some (.ref fa)) (hka : PySem.W.keepIn X.K (.ref fa) = true) (hba : Binds X.K fda ["_law_found", "_law_due"] []) (hrm : L2H.RoomH 1 ((gotC X N_ref "_law_refused" (defScope s_ref) g cdg s H E).suite a ((a, oe) :: pn)).A) :
    PDSs ((gotC X N_ref "_law_refused" (defScope s_ref) g cdg s H E).suite a ((a, oe) :: pn)) (noE, T) suite (b_suiteT X.K a C dd Tx.aH Tx.aP Tx.aW Tx.aM Tx.aL Tx.aT) := by
  have nd : (N_ref).Nodup := sc_ref.nd
  have hi := cd_isED (X := gotC X N_ref "_law_refused" (defScope s_ref) g cdg s H E) (a := a) (pn := pn) hC hz.zc hf
  have hu2 : ((gotC X N_ref "_law_refused" (defScope s_ref) g cdg s H E).suite a ((a, oe) :: pn)).A.units + 64 < cLine := by
    show X.A.units + 3 + 64 < cLine
    omega
  have hot := hot_suite (X := gotC X N_ref "_law_refused" (defScope s_ref) g cdg s H E) (a := a) (pn := pn) hz hf
  exact (pdss_cons (pds_asg (pd_lst (pda_cons (pd_blt hi Tx.f_isinstance (by decide +kernel) (pda_cons (pd_var 6 (pv 6)) (pda_cons (pd_glob (by rfl) Tx.cH) pda_nil))) (pda_cons (pd_blt hi Tx.f_isinstance (by decide +kernel) (pda_cons (pd_var 6 (pv 6)) (pda_cons (pd_glob (by rfl) Tx.cP) pda_nil))) (pda_cons (pd_blt hi Tx.f_isinstance (by decide +kernel) (pda_cons (pd_var 6 (pv 6)) (pda_cons (pd_glob (by rfl) Tx.cW) pda_nil))) (pda_cons (pd_blt hi Tx.f_isinstance (by decide +kernel) (pda_cons (pd_var 6 (pv 6)) (pda_cons (pd_glob (by rfl) Tx.cM) pda_nil))) pda_nil))))) (pdg_name (i := 3) nd rfl (Or.inl rfl)))
    (pdss_cons (pds_asg (pd_bin od_add (pd_var 3 (pv 3)) (pd_lst (pda_cons (pd_blt hi Tx.f_isinstance (by decide +kernel) (pda_cons (pd_var 6 (pv 6)) (pda_cons (pd_glob (by rfl) Tx.cL) pda_nil))) (pda_cons (pd_blt hi Tx.f_isinstance (by decide +kernel) (pda_cons (pd_var 6 (pv 6)) (pda_cons (pd_glob (by rfl) Tx.cT) pda_nil))) pda_nil)))) (pdg_name (i := 3) nd rfl (Or.inl rfl)))
    (pdss_cons (pds_asg (pd_lst (pda_cons pd_str (pda_cons pd_str (pda_cons pd_str (pda_cons pd_str (pda_cons pd_str (pda_cons pd_str pda_nil))))))) (pdg_name (i := 4) nd rfl (Or.inl rfl)))
    (pdss_cons (pds_if (PDW.pdt (pdw_or (pdt_not (pdt_val (pd_blt hi Tx.f_isinstance (by decide +kernel) (pda_cons (pd_var 6 (pv 6)) (pda_cons (pd_ty Tx.f_ValueError (by decide +kernel)) pda_nil))))) (pdw_or1 (pdt_cp (od_ne hu2) (pd_var 3 (pv 3)) (pd_hot (own := [("_law_one", 5)]) hot nd (pd_var 4 (pv 4)) (blkOk_by (own := [("_law_one", 5)]) (N := N_ref) (sc := defScope s_ref) (by decide +kernel)) (blk_name (i := 5) (by decide) (fun _ _ _ _ _ => pg_name (i := 5) nd rfl (by first | exact Or.inl rfl | exact Or.inr rfl)) (fun _ _ _ _ _ => pdts_nil) (fun _ _ _ _ _ => pd_cp (od_eq hu2) (pd_var 1 (pv 1)) (pd_var 5 (pv 5)))))))))
      (pdss_one (pds_ret pd_bl)) pdss_nil)
    (pdss_one (pds_ret (pd_or (pd_cp (od_ne hu2) (pd_var 1 (pv 1)) pd_str) (pd_one (pd_callH Fa hrm hot hma hka hba (pda_cons (pd_xf hX no hz.zc hf (pd_var 6 (pv 6))) (pda_cons (pd_var 2 (pv 2)) pda_nil)))))))))))
end
end K17
/-! ### k17: _law_refused answers True of a lambda that raises what is asked -/
namespace K17
open PySem PySem.Spec PyProof.Rows L2 Cc
local macro_rules | `(tactic| walk_at "rd") => `(tactic| try simp only [sSeq, sIf, sAsg, sRet, sRetN, sDrop, sNext, gN, gT, gsCons, gsNil, gsNames, D.tl, dTest, dAnd, dOr, dNot, dAndV, dOrV, dNotV, dIf, dOp, dUn, dVar, dC, dCons, dNil, dCB, dCall, dTup, dLst, blD_bl, dEq_int, dNe_int, dEq_str, dLt, dLe, dGt, dGe, dMod, dFdiv, dIsN, dNotN, D.isN, dAbs, List.getElem?_cons_zero, List.getElem?_cons_succ, List.set_cons_zero, List.set_cons_succ, List.length_cons, List.length_nil, decide_eq_true_eq, if_true, if_false, Bool.false_eq_true, ite_true, ite_false, true_and, and_true])
def wds : List Str := ["hand", "plan", "word", "meeting", "letter", "text"]
/-- C is the class of the word w, among the six -/
structure Kit (K : PySem.W.Frag) (C aH aP aW aM aL aT : Addr) (w : Str) : Prop where
  h : PySem.W.kitOne K (.ref C) (.ref aH) = some (decide (w = "hand"))
  p : PySem.W.kitOne K (.ref C) (.ref aP) = some (decide (w = "plan"))
  ww : PySem.W.kitOne K (.ref C) (.ref aW) = some (decide (w = "word"))
  m : PySem.W.kitOne K (.ref C) (.ref aM) = some (decide (w = "meeting"))
  l : PySem.W.kitOne K (.ref C) (.ref aL) = some (decide (w = "letter"))
  t : PySem.W.kitOne K (.ref C) (.ref aT) = some (decide (w = "text"))
  v : PySem.W.kitOne K (.ref C) (.type "ValueError") = some true
  nt : w ≠ "text"
/-- C is the class of errors with a row -/
structure KitT (K : PySem.W.Frag) (C aH aP aW aM aL aT : Addr) (w : Str) : Prop where
  h : PySem.W.kitOne K (.ref C) (.ref aH) = some (decide (w = "hand"))
  p : PySem.W.kitOne K (.ref C) (.ref aP) = some (decide (w = "plan"))
  ww : PySem.W.kitOne K (.ref C) (.ref aW) = some (decide (w = "word"))
  m : PySem.W.kitOne K (.ref C) (.ref aM) = some (decide (w = "meeting"))
  l : PySem.W.kitOne K (.ref C) (.ref aL) = some (decide (w = "letter"))
  t : PySem.W.kitOne K (.ref C) (.ref aT) = some (decide (w = "text"))
  v : PySem.W.kitOne K (.ref C) (.type "ValueError") = some true
  tx : w = "text"
theorem pure_suite {K : PySem.W.Frag} {a C aH aP aW aM aL aT : Addr} {w : Str} (k : Kit K C aH aP aW aM aL aT w) {G : DH} {Dn : DEnds} {o0 o2 o3 o4 o5 : Option D} (q : ∀ G2, Sub G G2 → Dn.rt (.bl true) G2) :
    b_suite K a C aH aP aW aM aL aT Dn [o0, some (.str w), o2, o3, o4, o5, some (.ref a)] G := by
  unfold b_suite isE
  walk_at "rd"
  refine ⟨rfl, _, _, rfl, k.h, ?_⟩
  refine ⟨rfl, _, _, rfl, k.p, ?_⟩
  refine ⟨rfl, _, _, rfl, k.ww, ?_⟩
  refine ⟨rfl, _, _, rfl, k.m, ?_⟩
  refine ⟨by rw [sizeLine_eq]; decide, fun p1 hp1 => ?_⟩
  refine ⟨rfl, _, _, rfl, k.l, ?_⟩
  refine ⟨rfl, _, _, rfl, k.t, ?_⟩
  refine ⟨by rw [sizeLine_eq]; decide, fun p2 hp2 => ?_⟩
  simp only [dAdd]
  refine ⟨_, _, keep_upd updD_same hp2, updD_same, by rw [sizeLine_eq]; simp, fun p3 hp3 => ?_⟩
  refine ⟨by rw [sizeLine_eq]; decide, fun p4 hp4 => ?_⟩
  refine ⟨rfl, _, _, rfl, k.v, ?_⟩
  walk_at "rd"
  simp only [Bool.not_true, Bool.false_eq_true, if_false, dHot]
  walk_at "rd"
  refine ⟨_, updD_same, fun p5 hp5 => ?_⟩
  have hp45 := keep_upd (c := .lst ([] : List D)) (updD_same (G := updD (updD (updD G p1 (.lst [.bl (decide (w = "hand")), .bl (decide (w = "plan")), .bl (decide (w = "word")), .bl (decide (w = "meeting"))])) p2 (.lst [.bl (decide (w = "letter")), .bl (decide (w = "text"))])) p3 (.lst [.bl (decide (w = "hand")), .bl (decide (w = "plan")), .bl (decide (w = "word")), .bl (decide (w = "meeting")), .bl (decide (w = "letter")), .bl (decide (w = "text"))])) (a := p4) (c := .lst [.str "hand", .str "plan", .str "word", .str "meeting", .str "letter", .str "text"])) hp5
  refine goLc_map (fun z => match z with
    | .str y => some (.bl (decide (w = y)))
    | _ => none) _ (by rw [sizeLine_eq]; decide) (fun acc => keep_upd updD_same hp5) ?_ fun z hz acc N hacc hN => ?_
  · have sG : Sub G (updD (updD (updD (updD (updD G p1 (.lst [.bl (decide (w = "hand")), .bl (decide (w = "plan")), .bl (decide (w = "word")), .bl (decide (w = "meeting"))])) p2 (.lst [.bl (decide (w = "letter")), .bl (decide (w = "text"))])) p3 (.lst [.bl (decide (w = "hand")), .bl (decide (w = "plan")), .bl (decide (w = "word")), .bl (decide (w = "meeting")), .bl (decide (w = "letter")), .bl (decide (w = "text"))])) p4 (.lst [.str "hand", .str "plan", .str "word", .str "meeting", .str "letter", .str "text"])) p5 (.lst [.bl (decide (w = "hand")), .bl (decide (w = "plan")), .bl (decide (w = "word")), .bl (decide (w = "meeting")), .bl (decide (w = "letter")), .bl (decide (w = "text"))])) :=
      ((((Sub.new hp1).trans (Sub.new hp2)).trans (Sub.new hp3)).trans (Sub.new hp4)).trans (Sub.new hp5)
    refine ⟨.list [.bool (decide (w = "hand")), .bool (decide (w = "plan")), .bool (decide (w = "word")), .bool (decide (w = "meeting")), .bool (decide (w = "letter")), .bool (decide (w = "text"))], _, .lst (keep_upd (keep_upd updD_same hp4) hp5) (.cons (.bl _) (.cons (.bl _) (.cons (.bl _) (.cons (.bl _) (.cons (.bl _) (.cons (.bl _) .nil)))))), .lst updD_same (.cons (.bl _) (.cons (.bl _) (.cons (.bl _) (.cons (.bl _) (.cons (.bl _) (.cons (.bl _) .nil)))))), by simp [SeqAt.shaped, PyData.canLay0, PyData.canLayAll0, PyData.depth, PyData.depthAll], by simp [SeqAt.shaped, PyData.canLay0, PyData.canLayAll0, PyData.depth, PyData.depthAll], ?_⟩
    rw [SeqAt.eqv_refl _ (by simp [PyData.canLay0, PyData.canLayAll0])]
    simp only [Bool.not_true, blD_bl]
    walk_at "rd"
    have en : dNe (.str w) (.str "text") = fun G R => R (.bl (!decide (w = "text"))) G := rfl
    have e1 : (!decide (w = "text")) = true := by rw [decide_eq_false k.nt]; rfl
    rw [en]
    dsimp only
    rw [e1, blD_bl, if_pos rfl]
    exact q _ (((((Sub.new hp1).trans (Sub.new hp2)).trans (Sub.new hp3)).trans (Sub.new hp4)).trans (Sub.new hp5))
  · simp only [wipeD]
    walk_at "rd"
    simp only [List.mem_cons, List.not_mem_nil, or_false] at hz
    rcases hz with rfl | rfl | rfl | rfl | rfl | rfl <;>
    · simp only [dYes]
      walk_at "rd"
      exact ⟨acc, updD_same, hacc, by rw [updD_updD]; exact hN⟩
theorem pure_suiteT {K : PySem.W.Frag} {a C dd aH aP aW aM aL aT : Addr} {w : Str} (k : KitT K C aH aP aW aM aL aT w) {G : DH} {Dn : DEnds} {o0 o3 o4 o5 : Option D} {n : Int} (hx : G dd = some (.xd [("row", .int n)])) (q : ∀ G2, Sub G G2 → Dn.rt (.bl true) G2) :
    b_suiteT K a C dd aH aP aW aM aL aT Dn [o0, some (.str w), some (.int n), o3, o4, o5, some (.ref a)] G := by
  unfold b_suiteT isED
  walk_at "rd"
  refine ⟨rfl, ⟨_, hx⟩, _, _, rfl, k.h, ?_⟩
  refine ⟨rfl, ⟨_, hx⟩, _, _, rfl, k.p, ?_⟩
  refine ⟨rfl, ⟨_, hx⟩, _, _, rfl, k.ww, ?_⟩
  refine ⟨rfl, ⟨_, hx⟩, _, _, rfl, k.m, ?_⟩
  refine ⟨by rw [sizeLine_eq]; decide, fun p1 hp1 => ?_⟩
  refine ⟨rfl, ⟨_, keep_upd hx hp1⟩, _, _, rfl, k.l, ?_⟩
  refine ⟨rfl, ⟨_, keep_upd hx hp1⟩, _, _, rfl, k.t, ?_⟩
  refine ⟨by rw [sizeLine_eq]; decide, fun p2 hp2 => ?_⟩
  simp only [dAdd]
  refine ⟨_, _, keep_upd updD_same hp2, updD_same, by rw [sizeLine_eq]; simp, fun p3 hp3 => ?_⟩
  refine ⟨by rw [sizeLine_eq]; decide, fun p4 hp4 => ?_⟩
  refine ⟨rfl, ⟨_, keep_upd (keep_upd (keep_upd (keep_upd hx hp1) hp2) hp3) hp4⟩, _, _, rfl, k.v, ?_⟩
  walk_at "rd"
  simp only [Bool.not_true, Bool.false_eq_true, if_false, dHot]
  walk_at "rd"
  refine ⟨_, updD_same, fun p5 hp5 => ?_⟩
  have hp45 := keep_upd (c := .lst ([] : List D)) (updD_same (G := updD (updD (updD G p1 (.lst [.bl (decide (w = "hand")), .bl (decide (w = "plan")), .bl (decide (w = "word")), .bl (decide (w = "meeting"))])) p2 (.lst [.bl (decide (w = "letter")), .bl (decide (w = "text"))])) p3 (.lst [.bl (decide (w = "hand")), .bl (decide (w = "plan")), .bl (decide (w = "word")), .bl (decide (w = "meeting")), .bl (decide (w = "letter")), .bl (decide (w = "text"))])) (a := p4) (c := .lst [.str "hand", .str "plan", .str "word", .str "meeting", .str "letter", .str "text"])) hp5
  refine goLc_map (fun z => match z with
    | .str y => some (.bl (decide (w = y)))
    | _ => none) _ (by rw [sizeLine_eq]; decide) (fun acc => keep_upd updD_same hp5) ?_ fun z hz acc N hacc hN => ?_
  · have sG : Sub G (updD (updD (updD (updD (updD G p1 (.lst [.bl (decide (w = "hand")), .bl (decide (w = "plan")), .bl (decide (w = "word")), .bl (decide (w = "meeting"))])) p2 (.lst [.bl (decide (w = "letter")), .bl (decide (w = "text"))])) p3 (.lst [.bl (decide (w = "hand")), .bl (decide (w = "plan")), .bl (decide (w = "word")), .bl (decide (w = "meeting")), .bl (decide (w = "letter")), .bl (decide (w = "text"))])) p4 (.lst [.str "hand", .str "plan", .str "word", .str "meeting", .str "letter", .str "text"])) p5 (.lst [.bl (decide (w = "hand")), .bl (decide (w = "plan")), .bl (decide (w = "word")), .bl (decide (w = "meeting")), .bl (decide (w = "letter")), .bl (decide (w = "text"))])) :=
      ((((Sub.new hp1).trans (Sub.new hp2)).trans (Sub.new hp3)).trans (Sub.new hp4)).trans (Sub.new hp5)
    refine ⟨.list [.bool (decide (w = "hand")), .bool (decide (w = "plan")), .bool (decide (w = "word")), .bool (decide (w = "meeting")), .bool (decide (w = "letter")), .bool (decide (w = "text"))], _, .lst (keep_upd (keep_upd updD_same hp4) hp5) (.cons (.bl _) (.cons (.bl _) (.cons (.bl _) (.cons (.bl _) (.cons (.bl _) (.cons (.bl _) .nil)))))), .lst updD_same (.cons (.bl _) (.cons (.bl _) (.cons (.bl _) (.cons (.bl _) (.cons (.bl _) (.cons (.bl _) .nil)))))), by simp [SeqAt.shaped, PyData.canLay0, PyData.canLayAll0, PyData.depth, PyData.depthAll], by simp [SeqAt.shaped, PyData.canLay0, PyData.canLayAll0, PyData.depth, PyData.depthAll], ?_⟩
    rw [SeqAt.eqv_refl _ (by simp [PyData.canLay0, PyData.canLayAll0])]
    simp only [Bool.not_true, blD_bl]
    walk_at "rd"
    have en : dNe (.str w) (.str "text") = fun G R => R (.bl (!decide (w = "text"))) G := rfl
    have e1 : (!decide (w = "text")) = false := by rw [decide_eq_true k.tx]; rfl
    rw [en]
    dsimp only
    rw [e1, blD_bl, if_neg Bool.false_ne_true]
    unfold dCallN dXf
    walk_at "rd"
    refine ⟨_, _, sG _ _ hx, rfl, ?_⟩
    exact ⟨n, rfl, q _ sG⟩
  · simp only [wipeD]
    walk_at "rd"
    simp only [List.mem_cons, List.not_mem_nil, or_false] at hz
    rcases hz with rfl | rfl | rfl | rfl | rfl | rfl <;>
    · simp only [dYes]
      walk_at "rd"
      exact ⟨acc, updD_same, hacc, by rw [updD_updD]; exact hN⟩
/-- the words, classes, fields that the def is right about -/
def OkR {K : PySem.W.Frag} {mg : Str → Option Value} (Tx : TxR K mg) (w : Str) (C : Addr) (fv : Option Int) : Prop :=
  PySem.W.exmOne K (.ref C) (.ref Tx.aE) = some true ∧ ExcC K C ∧ ((fv = none ∧ Kit K C Tx.aH Tx.aP Tx.aW Tx.aM Tx.aL Tx.aT w) ∨ (∃ n, fv = some n) ∧ KitT K C Tx.aH Tx.aP Tx.aW Tx.aM Tx.aL Tx.aT w ∧ XfC K C ∧ PySem.W.findIn K (.ref C) "row" = some none)
theorem given_refG {X : Cx} {T : List (Addr × Str)} (Tx : TxR X.K X.mg) {g fa : Addr} {fda : FuncData} {cdg : Value} {k : Nat} {q : Str} (hu : X.A.units + 200 < cLine)
    (Fa : L2H.FnH X.prog X.w X.K X.mg X.base (L2N.CX X.prog X.w) 1 fa fda ["_law_found", "_law_due"] (upF (X.K, T) sdAlI)) (hma : X.mg "_law_alike" = some (.ref fa)) (hka : PySem.W.keepIn X.K (.ref fa) = true) (hba : Binds X.K fda ["_law_found", "_law_due"] []) :
    Given X N_ref ["_law_work", "_law_word", "_law_value"] "_law_refused" "_law_work" (defScope s_ref) g cdg (defBody s_ref) (k + 1) q (spRefG (X.K, T) (OkR Tx)) := by
  intro f c' s H Q E vs tl hact hr hc ⟨w, C, fv, v, ev, ⟨hx, hC, hok⟩, hfv, ht⟩
  subst ev
  have nd : (N_ref).Nodup := sc_ref.nd
  have tk : L2N.Takes (gotC X N_ref "_law_refused" (defScope s_ref) g cdg s H E) (fun cls d _ H => E cls d H) := L2N.takes_of rfl rfl rfl rfl
  refine ⟨_, pss_cons (L2N.ps_try_as (i := 6) (c := .ref Tx.aE) (Wout := fun cls d _ H => E cls d H) (tb := fun W => tDrop (ActT f c' q W tl))
      (ts := fun a cls d D σ H => ∃ C, cls = .ref C ∧ ExcC X.K C ∧ ((d = none ∧ upS (X.K, T) noE (b_suite X.K a C Tx.aH Tx.aP Tx.aW Tx.aM Tx.aL Tx.aT) D σ H) ∨ ∃ dd, d = some dd ∧ XfC X.K C ∧ PySem.W.findIn X.K (.ref C) "row" = some none ∧ upS (X.K, T) noE (b_suiteT X.K a C dd Tx.aH Tx.aP Tx.aW Tx.aM Tx.aL Tx.aT) D σ H))
      rfl rfl nd rfl rfl ⟨by rfl, by decide, .inl Tx.cE⟩ tk (fun W pn xe tkW _ => pss_one (ps_expr (hact W pn xe _ _ tkW))) fun a oe cls d pn hz hf => ?_) (pss_one (ps_ret pe_bl)), ?_⟩
  · refine ⟨fun pins s1 σ1 H1 D1 I1 ⟨C1, e1, hC1, h1⟩ => ?_⟩
    subst e1
    rcases h1 with ⟨e2, h1⟩ | ⟨dd, e2, x1, x2, h1⟩
    · subst e2
      exact (bd_suite (T := T) Tx hC1 hz hf hu).ps.run pins s1 σ1 H1 D1 I1 h1
    · subst e2
      exact (bd_suiteT (T := T) Tx hC1 x1 x2 hz hf hu Fa hma hka hba (L2H.roomH_mark (hr.mono (by omega)) _)).ps.run pins s1 σ1 H1 D1 I1 h1
  · refine (show ActT f c' q _ tl _ H _ from ⟨rfl, hc, (fun cls o H' => cls = .ref C ∧ ∃ G', errIs G' fv o ∧ HRel (X.K, T) G' H' ∧ ∀ G2 H2, Sub G' G2 → Up H' H2 → HRel (X.K, T) G2 H2 → Q (.bl true) H2), fun cls o H' ⟨e1, G', he, hG', hq⟩ => ?_, ht _⟩)
    subst e1
    refine ⟨true, hx, fun _ a na => ⟨C, rfl, hC, ?_⟩, fun z => by cases z⟩
    rcases hok with ⟨e0, kit⟩ | ⟨⟨n, e0⟩, kit, x1, x2⟩
    · subst e0
      cases o with
      | some z => exact he.elim
      | none =>
        refine .inl ⟨rfl, ?_⟩
        have sr : SRel (X.K, T) H' ((L2.start N_ref [.ref f, .str w, v]).set 6 (some (.ref a))) [none, some (.str w), none, none, none, none, some (.ref a)] := ⟨rfl, fun i d e => by
          match i, e with
          | 1, e => cases e; exact ⟨_, rfl, .str w⟩
          | 6, e => cases e; exact ⟨_, rfl, .ref a⟩
          | 0, e => cases e
          | 2, e => cases e
          | 3, e => cases e
          | 4, e => cases e
          | 5, e => cases e
          | n + 7, e => simp at e⟩
        refine ⟨_, G', { nx := fun _ _ => False, rt := fun d G2 => d = .bl true ∧ Sub G' G2 }, sr, hG', pure_suite kit (fun G2 s2 => ⟨rfl, s2⟩), fun _ _ _ _ _ _ _ z => z.elim, fun v2 H2 d G2 u2 h2 r2 ⟨e, s2⟩ => ?_, fun _ _ _ _ _ _ _ z => z.elim, fun _ _ _ _ _ _ _ z => z.elim, fun _ _ _ _ _ _ z => z.elim⟩
        subst e
        cases r2
        exact hq G2 H2 s2 u2 h2
    · subst e0
      cases o with
      | none => exact he.elim
      | some dd =>
        have he : G' dd = some (.xd [("row", .int n)]) := he
        have ev := hfv n rfl
        subst ev
        refine .inr ⟨dd, rfl, x1, x2, ?_⟩
        have sr : SRel (X.K, T) H' ((L2.start N_ref [.ref f, .str w, .int n]).set 6 (some (.ref a))) [none, some (.str w), some (.int n), none, none, none, some (.ref a)] := ⟨rfl, fun i d e => by
          match i, e with
          | 1, e => cases e; exact ⟨_, rfl, .str w⟩
          | 2, e => cases e; exact ⟨_, rfl, .int n⟩
          | 6, e => cases e; exact ⟨_, rfl, .ref a⟩
          | 0, e => cases e
          | 3, e => cases e
          | 4, e => cases e
          | 5, e => cases e
          | n + 7, e => simp at e⟩
        refine ⟨_, G', { nx := fun _ _ => False, rt := fun d G2 => d = .bl true ∧ Sub G' G2 }, sr, hG', pure_suiteT kit he (fun G2 s2 => ⟨rfl, s2⟩), fun _ _ _ _ _ _ _ z => z.elim, fun v2 H2 d G2 u2 h2 r2 ⟨e, s2⟩ => ?_, fun _ _ _ _ _ _ _ z => z.elim, fun _ _ _ _ _ _ _ z => z.elim, fun _ _ _ _ _ _ z => z.elim⟩
        subst e
        cases r2
        exact hq G2 H2 s2 u2 h2
end K17
/-! ### k17: numbers as texts -/
namespace K17
open PySem PySem.Spec PyProof.Rows L2 Cc TL
open PySem.NumText (AllDigits digitsVal digitsVal_snoc digitsVal_pos digitsVal_zero)
abbrev valL (l : List Nat) : Nat := digitsVal l
/-- digits, with no nought ahead of others: just what str gives -/
def Canon (l : List Nat) : Prop := AllDigits l ∧ l ≠ [] ∧ (l.head? = some 48 → l = [48])
theorem numL_head : ∀ n : Nat, 0 < n → (numL n).head? ≠ some 48 := by
  intro n
  induction n using Nat.strongRecOn with
  | _ n ih =>
    intro hn
    by_cases h : n < 10
    · rw [numL_lt h]
      simp
      omega
    · rw [numL_step (by omega)]
      have e := ih (n / 10) (by omega) (by omega)
      cases hq : numL (n / 10) with
      | nil => exact absurd hq (numL_ne _)
      | cons a r =>
        rw [hq] at e
        exact e
theorem numL_canon (n : Nat) : Canon (numL n) := by
  refine ⟨numL_digits n, numL_ne n, fun h => ?_⟩
  by_cases h0 : n = 0
  · subst h0
    rfl
  · exact absurd h (numL_head n (by omega))
/-- a number's text is what has no nought ahead -/
theorem canon_num : ∀ (k : Nat) (l : List Nat), l.length = k → Canon l → numL (valL l) = l := by
  intro k
  induction k using Nat.strongRecOn with
  | _ k ih =>
    intro l hl hc
    obtain ⟨hd, hne, h0⟩ := hc
    have e := List.dropLast_concat_getLast hne
    generalize l.dropLast = ini at e
    generalize l.getLast hne = c at e
    subst e
    have hc : 48 ≤ c ∧ c ≤ 57 := hd c (List.mem_append_right _ (List.mem_singleton.mpr rfl))
    have hi : AllDigits ini := fun d hm => hd d (List.mem_append_left _ hm)
    rw [valL, digitsVal_snoc]
    cases ini with
    | nil =>
      show numL (0 * 10 + (c - 48)) = [c]
      rw [numL_lt (by omega)]
      congr 1
      omega
    | cons a r =>
      have ha : a ≠ 48 := fun hx => by
        subst hx
        have := h0 rfl
        injection this with _ h2
        simp at h2
      have hai := hi a (List.mem_cons_self ..)
      have hv : 0 < digitsVal (a :: r) := digitsVal_pos (by omega)
      have i := ih (a :: r).length (by rw [List.length_append] at hl; simp at hl ⊢; omega) (a :: r) rfl ⟨hi, by simp, fun h => by
        simp at h
        exact absurd h ha⟩
      rw [numL_step (by omega), show (digitsVal (a :: r) * 10 + (c - 48)) / 10 = digitsVal (a :: r) by omega, show (digitsVal (a :: r) * 10 + (c - 48)) % 10 = c - 48 by omega]
      show numL (valL (a :: r)) ++ _ = _
      rw [i]
      congr 2
      omega
theorem canon_iff {l : List Nat} : Canon l ↔ ∃ n, l = numL n := by
  constructor
  · exact fun h => ⟨valL l, (canon_num _ l rfl h).symm⟩
  · rintro ⟨n, rfl⟩
    exact numL_canon n
theorem canon_eq {l : List Nat} (hd : AllDigits l) (hn : l ≠ []) : numL (valL l) = l ↔ (l.head? = some 48 → l = [48]) := by
  constructor
  · intro h
    rw [← h]
    exact (numL_canon _).2.2
  · exact fun h => canon_num _ l rfl ⟨hd, hn, h⟩
end K17
/-! ### k17: a line of a text, and what it tells -/
namespace K17
open PySem PySem.Spec PyProof.Rows L2 Cc TL
open PySem.NumText (AllDigits digitsVal digitsVal_snoc digitsVal_pos digitsVal_zero)
/-- a text split at one sign, joined again -/
theorem spl_one (c : Nat) : ∀ (l acc : List Nat), ∃ p r, spl [c] 0 acc l = (acc ++ p) :: r ∧ (∀ q ∈ p :: r, c ∉ q) ∧ joinL [c] (p :: r) = l
  | [], acc => ⟨[], [], by rw [spl_nil, List.append_nil], by simp, rfl⟩
  | x :: l, acc => by
    by_cases h : x = c
    · subst h
      obtain ⟨p, r, e, hf, hj⟩ := spl_one x l []
      refine ⟨[], p :: r, ?_, ?_, ?_⟩
      · rw [spl_hit (show pre [x] (x :: l) = true from by simp [pre]), List.append_nil]
        show acc :: spl [x] 0 [] l = _
        rw [e, List.nil_append]
      · intro q hq
        cases hq with
        | head => simp
        | tail _ hq => exact hf q hq
      · show [] ++ ([x] ++ joinL [x] (p :: r)) = x :: l
        rw [hj]
        all_goals rfl
    · obtain ⟨p, r, e, hf, hj⟩ := spl_one c l (acc ++ [x])
      refine ⟨x :: p, r, ?_, ?_, ?_⟩
      · rw [spl_miss (pre_of_head _ _ h), e, List.append_assoc]
        rfl
      · intro q hq
        cases hq with
        | head =>
          intro hm
          rcases List.mem_cons.mp hm with hm | hm
          · exact h hm.symm
          · exact hf p (List.mem_cons_self ..) hm
        | tail _ hq => exact hf q (List.mem_cons_of_mem _ hq)
      · cases r with
        | nil =>
          show x :: p = _
          have : p = l := hj
          rw [this]
        | cons q r =>
          show (x :: p) ++ ([c] ++ joinL [c] (q :: r)) = _
          have : p ++ ([c] ++ joinL [c] (q :: r)) = l := hj
          rw [← this]
          rfl
theorem spl_ne (c : Nat) (l : List Nat) : spl [c] 0 [] l ≠ [] := by
  obtain ⟨p, r, e, -, -⟩ := spl_one c l []
  rw [e]
  simp
theorem join_spl (c : Nat) (l : List Nat) : joinL [c] (spl [c] 0 [] l) = l := by
  obtain ⟨p, r, e, -, h⟩ := spl_one c l []
  rw [e]
  exact h
theorem spl_all (c : Nat) (l : List Nat) : ∀ q ∈ spl [c] 0 [] l, c ∉ q := by
  obtain ⟨p, r, e, h, -⟩ := spl_one c l []
  rw [e]
  exact h
theorem spl_iff {c : Nat} {l : List Nat} {ps : List (List Nat)} (hn : ps ≠ []) (hf : ∀ q ∈ ps, c ∉ q) : spl [c] 0 [] l = ps ↔ l = joinL [c] ps := by
  constructor
  · rintro rfl
    exact (join_spl c l).symm
  · rintro rfl
    exact spl_join hn hf
/-! ### numbers -/
instance (l : List Nat) : Decidable (AllDigits l) := inferInstanceAs (Decidable (∀ c ∈ l, 48 ≤ c ∧ c ≤ 57))
def pnum (w : List Nat) : Option Nat := if (1 ≤ w.length ∧ w.length ≤ 3 ∧ AllDigits w) ∧ (w = [48] ∨ w.head? ≠ some 48) then some (valL w) else none
def lnum (w : List Nat) (lo hi : Nat) : Option Nat := if (w ≠ [] ∧ AllDigits w ∧ w.length ≤ 9) ∧ numL (valL w) = w ∧ lo ≤ valL w ∧ valL w ≤ hi then some (valL w) else none
theorem val_lt : ∀ l : List Nat, AllDigits l → valL l < 10 ^ l.length := by
  intro l
  induction h : l.length generalizing l with
  | zero =>
    intro _
    rw [List.length_eq_zero_iff.mp h]
    decide
  | succ k ih =>
    intro hd
    have hne : l ≠ [] := by intro e; rw [e] at h; simp at h
    have e := List.dropLast_concat_getLast hne
    generalize l.dropLast = ini at e
    generalize l.getLast hne = c at e
    subst e
    have i := ih ini (by rw [List.length_append, List.length_singleton] at h; omega) (fun d hm => hd d (List.mem_append_left _ hm))
    have hc := hd c (List.mem_append_right _ (List.mem_singleton.mpr rfl))
    rw [valL, digitsVal_snoc, Nat.pow_succ]
    have : valL ini = digitsVal ini := rfl
    omega
theorem pnum_iff {w : List Nat} {n : Nat} : pnum w = some n ↔ w = numL n ∧ n ≤ 999 := by
  unfold pnum
  constructor
  · intro h
    split at h
    · rename_i hc
      obtain ⟨⟨h1, h3, hd⟩, h0⟩ := hc
      injection h with h
      subst h
      refine ⟨((canon_eq hd (by intro e; rw [e] at h1; simp at h1)).mpr fun hh => ?_).symm, ?_⟩
      · rcases h0 with h0 | h0
        · exact h0
        · exact absurd hh h0
      · have := val_lt w hd
        have h10 : 10 ^ w.length ≤ 10 ^ 3 := Nat.pow_le_pow_right (by decide) h3
        omega
    · cases h
  · rintro ⟨rfl, hn⟩
    have hc := numL_canon n
    have hl := numL_len (n := n) (k := 3) (by decide) (by omega)
    have h0 : numL n = [48] ∨ (numL n).head? ≠ some 48 := by
      by_cases h : (numL n).head? = some 48
      · exact Or.inl (hc.2.2 h)
      · exact Or.inr h
    rw [if_pos ⟨⟨List.length_pos_iff.mpr hc.2.1, hl, hc.1⟩, h0⟩]
    exact congrArg some (numL_val n)
theorem lnum_iff {w : List Nat} {lo hi n : Nat} (hh : hi ≤ 999) : lnum w lo hi = some n ↔ w = numL n ∧ lo ≤ n ∧ n ≤ hi := by
  unfold lnum
  constructor
  · intro h
    split at h
    · rename_i hc
      injection h with h
      subst h
      exact ⟨hc.2.1.symm, hc.2.2⟩
    · cases h
  · rintro ⟨rfl, h1, h2⟩
    have hl := numL_len (n := n) (k := 3) (by decide) (by omega)
    have hv : valL (numL n) = n := numL_val n
    rw [if_pos ⟨⟨numL_ne n, numL_digits n, by omega⟩, by rw [hv], by rw [hv]; exact h1, by rw [hv]; exact h2⟩, hv]
end K17
/-! ### k17: a line's form -/
namespace K17
open PySem PySem.Spec PyProof.Rows L2 Cc TL
def GFit (gs : List Nat) : Prop := gs.Pairwise (· < ·) ∧ gs.length ≤ 6 ∧ ∀ g ∈ gs, g < 8
def PFit (p : List Nat) : Prop := ∃ b l e m, p = [b, l, e, m] ∧ b ≤ 999 ∧ (1 ≤ l ∧ l ≤ 50) ∧ (1 ≤ e ∧ e ≤ 100) ∧ 1 ≤ m ∧ m ≤ 12
def glast (gs : List Nat) : List Nat := if gs = [] then [45] else joinL [44] (gs.map numL)
def lineT (p gs : List Nat) : List Nat := joinL [32] (p.map numL ++ [glast gs])
theorem all_some {α : Type} : ∀ {f : List (Option α)}, none ∉ f → ∃ ns : List α, f = ns.map some
  | [], _ => ⟨[], rfl⟩
  | none :: f, h => absurd (List.mem_cons_self ..) h
  | some a :: f, h => by
    obtain ⟨ns, e⟩ := all_some (f := f) fun hm => h (List.mem_cons_of_mem _ hm)
    exact ⟨a :: ns, by rw [e]; rfl⟩
theorem map_pnum : ∀ {ws : List (List Nat)} {ns : List Nat}, ws.map pnum = ns.map some ↔ ws = ns.map numL ∧ ∀ n ∈ ns, n ≤ 999
  | [], [] => by simp
  | [], n :: ns => by simp
  | w :: ws, [] => by simp
  | w :: ws, n :: ns => by
    rw [List.map_cons, List.map_cons, List.map_cons, List.cons.injEq, List.cons.injEq, pnum_iff, map_pnum]
    constructor
    · rintro ⟨⟨h1, h2⟩, h3, h4⟩
      refine ⟨⟨h1, h3⟩, fun k hk => ?_⟩
      rcases List.mem_cons.mp hk with rfl | hk
      · exact h2
      · exact h4 k hk
    · rintro ⟨⟨h1, h3⟩, h⟩
      exact ⟨⟨h1, h n (List.mem_cons_self ..)⟩, h3, fun k hk => h k (List.mem_cons_of_mem _ hk)⟩
theorem map_lnum {lo hi : Nat} (hh : hi ≤ 999) : ∀ {ws : List (List Nat)} {ns : List Nat}, ws.map (fun w => lnum w lo hi) = ns.map some ↔ ws = ns.map numL ∧ ∀ n ∈ ns, lo ≤ n ∧ n ≤ hi
  | [], [] => by simp
  | [], n :: ns => by simp
  | w :: ws, [] => by simp
  | w :: ws, n :: ns => by
    rw [List.map_cons, List.map_cons, List.map_cons, List.cons.injEq, List.cons.injEq, lnum_iff hh, map_lnum hh]
    constructor
    · rintro ⟨⟨h1, h2⟩, h3, h4⟩
      refine ⟨⟨h1, h3⟩, fun k hk => ?_⟩
      rcases List.mem_cons.mp hk with rfl | hk
      · exact h2
      · exact h4 k hk
    · rintro ⟨⟨h1, h3⟩, h⟩
      exact ⟨⟨h1, h n (List.mem_cons_self ..)⟩, h3, fun k hk => h k (List.mem_cons_of_mem _ hk)⟩
theorem nums_free {c : Nat} (h : c < 48 ∨ 57 < c) {ns : List Nat} : ∀ q ∈ ns.map numL, c ∉ q := fun q hq => by
  obtain ⟨n, -, rfl⟩ := List.mem_map.mp hq
  exact numL_free h
theorem join_nums_free {c : Nat} (h : (c < 48 ∨ 57 < c) ∧ c ≠ 44) : ∀ ns : List Nat, c ∉ joinL [44] (ns.map numL)
  | [] => by show c ∉ []; simp
  | [n] => numL_free h.1
  | n :: m :: ns => by
    show c ∉ numL n ++ ([44] ++ joinL [44] ((m :: ns).map numL))
    have i := join_nums_free h (m :: ns)
    intro hm
    rcases List.mem_append.mp hm with hm | hm
    · exact numL_free h.1 hm
    · rcases List.mem_append.mp hm with hm | hm
      · exact h.2 (List.mem_singleton.mp hm)
      · exact i hm
theorem glast_free {c : Nat} (h : (c < 48 ∨ 57 < c) ∧ c ≠ 44) (h5 : c ≠ 45) (gs : List Nat) : c ∉ glast gs := by
  unfold glast
  split
  · exact fun hm => h5 (List.mem_singleton.mp hm)
  · exact join_nums_free h gs
/-- the last part of a line, by the program's way -/
theorem guests_p {w : List Nat} {gs : List Nat} (hg : gs ≠ []) : (spl [44] 0 [] w).map pnum = gs.map some ↔ w = glast gs ∧ ∀ g ∈ gs, g ≤ 999 := by
  rw [map_pnum, spl_iff (by simpa using hg) (nums_free (by decide)), glast, if_neg hg]
/-- .. by the law's -/
theorem guests_l {w : List Nat} {gs : List Nat} (hg : gs ≠ []) : (spl [44] 0 [] w).map (fun w => lnum w 0 7) = gs.map some ↔ w = glast gs ∧ ∀ g ∈ gs, g < 8 := by
  rw [map_lnum (by decide), spl_iff (by simpa using hg) (nums_free (by decide)), glast, if_neg hg]
  constructor
  · exact fun ⟨a, b⟩ => ⟨a, fun g hm => by have := b g hm; omega⟩
  · exact fun ⟨a, b⟩ => ⟨a, fun g hm => by have := b g hm; omega⟩
theorem glast_inj {gs hs : List Nat} (h : glast gs = glast hs) : gs = hs := by
  have key : ∀ {ks : List Nat}, ks ≠ [] → spl [44] 0 [] (glast ks) = ks.map numL := fun {ks} hk => by
    rw [glast, if_neg hk]
    exact spl_join (by simpa using hk) (nums_free (by decide))
  have hmap : ∀ {a b : List Nat}, a.map numL = b.map numL → a = b := fun {a b} e => by
    have : (a.map numL).map NumText.digitsVal = (b.map numL).map NumText.digitsVal := by rw [e]
    simpa [List.map_map, Function.comp_def, numL_val] using this
  have h45 : ∀ {ks : List Nat}, ks ≠ [] → glast ks ≠ [45] := fun {ks} hk e => by
    have k := key hk
    rw [e] at k
    have : spl [44] 0 [] [45] = [[45]] := by decide
    rw [this] at k
    cases ks with
    | nil => exact hk rfl
    | cons a r =>
      injection k with k1 k2
      have := numL_digits a 45 (by rw [← k1]; simp)
      omega
  by_cases hg : gs = []
  · by_cases hh : hs = []
    · rw [hg, hh]
    · exact absurd (h.symm.trans (by rw [hg]; rfl)) (h45 hh)
  · by_cases hh : hs = []
    · exact absurd (h.trans (by rw [hh]; rfl)) (h45 hg)
    · have a := key hg
      rw [h, key hh] at a
      exact (hmap a).symm
/-- a line's parts -/
theorem line_parts {l p gs : List Nat} : spl [32] 0 [] l = p.map numL ++ [glast gs] ↔ l = lineT p gs := by
  rw [spl_iff (by simp)]
  · rfl
  · intro q hq
    rcases List.mem_append.mp hq with hq | hq
    · exact nums_free (by decide) q hq
    · rw [List.mem_singleton.mp hq]
      exact glast_free (by decide) (by decide) gs
end K17
/-! ### k17: what a line, and a text, tells -/
namespace K17
open PySem PySem.Spec PyProof.Rows L2 Cc TL
open Classical in
noncomputable def gsOf (w : List Nat) : Option (List Nat) := if h : ∃ gs, GFit gs ∧ w = glast gs then some h.choose else none
theorem gsOf_iff {w gs : List Nat} : gsOf w = some gs ↔ GFit gs ∧ w = glast gs := by
  unfold gsOf
  split
  · rename_i h
    constructor
    · intro e
      injection e with e
      rw [← e]
      exact h.choose_spec
    · rintro ⟨-, e⟩
      rw [glast_inj (h.choose_spec.2.symm.trans e)]
  · rename_i h
    constructor
    · intro e
      cases e
    · exact fun e => absurd ⟨gs, e⟩ h
theorem lineT_inj {p q gs hs : List Nat} (h : lineT p gs = lineT q hs) : p = q ∧ gs = hs := by
  have a := line_parts.mpr (rfl : lineT p gs = lineT p gs)
  rw [h, line_parts.mpr (rfl : lineT q hs = lineT q hs)] at a
  obtain ⟨e1, e2⟩ := List.append_inj' a rfl
  have e : (q.map numL).map NumText.digitsVal = (p.map numL).map NumText.digitsVal := by rw [e1]
  refine ⟨by simpa [List.map_map, Function.comp_def, numL_val] using e.symm, ?_⟩
  injection e2 with e2
  exact (glast_inj e2).symm
open Classical in
noncomputable def lineOf (l : List Nat) : Option (List Nat × List Nat) := if h : ∃ c : List Nat × List Nat, PFit c.1 ∧ GFit c.2 ∧ l = lineT c.1 c.2 then some h.choose else none
theorem lineOf_iff {l : List Nat} {c : List Nat × List Nat} : lineOf l = some c ↔ PFit c.1 ∧ GFit c.2 ∧ l = lineT c.1 c.2 := by
  unfold lineOf
  split
  · rename_i h
    constructor
    · intro e
      injection e with e
      rw [← e]
      exact h.choose_spec
    · rintro ⟨-, -, e⟩
      have := lineT_inj (h.choose_spec.2.2.symm.trans e)
      rw [show h.choose = c from Prod.ext this.1 this.2]
  · rename_i h
    constructor
    · intro e
      cases e
    · exact fun e => absurd ⟨c, e⟩ h
theorem lineOf_none {l : List Nat} : lineOf l = none ↔ ∀ p gs, PFit p → GFit gs → l ≠ lineT p gs := by
  constructor
  · intro h p gs hp hg e
    rw [lineOf_iff.mpr (⟨hp, hg, e⟩ : PFit (p, gs).1 ∧ GFit (p, gs).2 ∧ l = lineT (p, gs).1 (p, gs).2)] at h
    cases h
  · intro h
    cases e : lineOf l with
    | none => rfl
    | some c =>
      obtain ⟨a, b, d⟩ := lineOf_iff.mp e
      exact absurd d (h _ _ a b)
/-- a text's lines -/
def linesOf (t : List Nat) : List (List Nat) := if t = [] then [] else spl [10] 0 [] t
def textT (cs : List (List Nat × List Nat)) : List Nat := joinL [10] (cs.map fun c => lineT c.1 c.2)
theorem join_free {c s : Nat} (hcs : c ≠ s) : ∀ {ps : List (List Nat)}, (∀ q ∈ ps, c ∉ q) → c ∉ joinL [s] ps
  | [], _ => by show c ∉ []; simp
  | [p], h => h p (List.mem_cons_self ..)
  | p :: q :: r, h => by
    show c ∉ p ++ ([s] ++ joinL [s] (q :: r))
    have i := join_free hcs (ps := q :: r) fun z hz => h z (List.mem_cons_of_mem _ hz)
    intro hm
    rcases List.mem_append.mp hm with hm | hm
    · exact h p (List.mem_cons_self ..) hm
    · rcases List.mem_append.mp hm with hm | hm
      · exact hcs (List.mem_singleton.mp hm)
      · exact i hm
theorem lineT_free (p gs : List Nat) : 10 ∉ lineT p gs := by
  refine join_free (by decide) fun q hq => ?_
  rcases List.mem_append.mp hq with hq | hq
  · exact nums_free (by decide) q hq
  · rw [List.mem_singleton.mp hq]
    exact glast_free (by decide) (by decide) gs
theorem lineT_ne {p gs : List Nat} (hp : p ≠ []) : lineT p gs ≠ [] := fun e => by
  have a := line_parts.mpr (rfl : lineT p gs = lineT p gs)
  rw [e, spl_nil] at a
  cases p with
  | nil => exact hp rfl
  | cons x p =>
    injection a with a b
    exact numL_ne x a.symm
theorem lines_text {cs : List (List Nat × List Nat)} (h : ∀ c ∈ cs, c.1 ≠ []) : linesOf (textT cs) = cs.map fun c => lineT c.1 c.2 := by
  unfold linesOf textT
  cases cs with
  | nil => rfl
  | cons c cs =>
    rw [if_neg, spl_join (by simp)]
    · intro q hq
      obtain ⟨c, -, rfl⟩ := List.mem_map.mp hq
      exact lineT_free _ _
    · intro e
      have k : spl [10] 0 [] (joinL [10] ((c :: cs).map fun c => lineT c.1 c.2)) = _ := spl_join (by simp) fun q hq => by
        obtain ⟨c, -, rfl⟩ := List.mem_map.mp hq
        exact lineT_free _ _
      rw [e, spl_nil] at k
      injection k with k1 k2
      exact lineT_ne (h c (List.mem_cons_self ..)) k1.symm
end K17
/-! ### draws, menus, emptiness -/
namespace Cc
open PySem PySem.Spec PyProof.Rows L2
open PySem.W (EachIs AllAlike Sortable dataLe)
theorem off_use {a : Addr} {m : Int} {l : List D} {G : DH} {R : DK} {EX : DX} (dl : Draws l) (m0 : 0 < m) (m1 : m < 1073741824) (q : ∀ r l', 0 ≤ r → r < m → Draws l' → R (.int r) (updD G a (.lst l'))) : sd__law_off [.ref a, .int m] (updD G a (.lst l)) R EX :=
  ⟨a, m, l, rfl, updD_same, dl, m0, m1, fun r l' h0 h1 dl' _ => by rw [updD_updD]; exact q r l' h0 h1 dl'⟩
/-- .. some other cell was stored behind the draws' -/
theorem off_use2 {a f : Addr} {c : C} {m : Int} {l : List D} {G : DH} {R : DK} {EX : DX} (ne : f ≠ a) (dl : Draws l) (m0 : 0 < m) (m1 : m < 1073741824) (q : ∀ r l', 0 ≤ r → r < m → Draws l' → R (.int r) (updD (updD G a (.lst l')) f c)) : sd__law_off [.ref a, .int m] (updD (updD G a (.lst l)) f c) R EX :=
  ⟨a, m, l, rfl, by rw [updD_ne (Ne.symm ne)]; exact updD_same, dl, m0, m1, fun r l' h0 h1 dl' _ => by rw [updD_comm ne, updD_updD]; exact q r l' h0 h1 dl'⟩
theorem menu2 {i j r : Int} {G : DH} {R : DK} (h0 : 0 ≤ r) (h1 : r < 2) (q : ∀ x, x = i ∨ x = j → R (.int x) G) : dIx (.rol [.int i, .int j]) (.int r) G R := by
  rw [vix_rol]
  rcases (show r = 0 ∨ r = 1 by omega) with rfl | rfl
  · rw [vat_0]; exact q _ (.inl rfl)
  · rw [vat_1]; exact q _ (.inr rfl)
theorem menu3 {i j k r : Int} {G : DH} {R : DK} (h0 : 0 ≤ r) (h1 : r < 3) (q : ∀ x, x = i ∨ x = j ∨ x = k → R (.int x) G) : dIx (.rol [.int i, .int j, .int k]) (.int r) G R := by
  rw [vix_rol]
  rcases (show r = 0 ∨ r = 1 ∨ r = 2 by omega) with rfl | rfl | rfl
  · rw [vat_0]; exact q _ (.inl rfl)
  · rw [vat_1]; exact q _ (.inr (.inl rfl))
  · rw [vat_2]; exact q _ (.inr (.inr rfl))
theorem menuD {l : List D} {r : Int} {G : DH} {R : DK} (h0 : 0 ≤ r) (h1 : r < l.length) (q : ∀ x ∈ l, R x G) : dIx (.rol l) (.int r) G R := by
  rw [vix_rol]
  obtain ⟨d, hd, e⟩ := atI_mem h0 h1
  rw [e]
  exact q d hd
theorem eqv_nil (xs : List PyData) : PyData.eqv (.list xs) (.list []) = xs.isEmpty := by
  cases xs <;> simp [PyData.eqv, PyData.eqvAll]
theorem shaped_nil : SeqAt.shaped (.list []) = true := by simp [SeqAt.shaped, PyData.canLay0, PyData.canLayAll0, PyData.depth, PyData.depthAll]
theorem vne_nil {l : List D} {ts : List PyData} {G : DH} {R : DK} (h : RddL G l ts) (s : SeqAt.shaped (.list ts) = true) (q : R (.bl (!l.isEmpty)) G) : dNe (.rol l) (.rol []) G R := by
  refine ⟨.list ts, .list [], .rol h, .rol .nil, s, shaped_nil, ?_⟩
  rw [eqv_nil]
  have : ts.isEmpty = l.isEmpty := by
    have := h.len
    cases l <;> cases ts <;> first | rfl | cases this
  rw [this]
  exact q
theorem veq_nil {l : List D} {ts : List PyData} {G : DH} {R : DK} (h : RddL G l ts) (s : SeqAt.shaped (.list ts) = true) (q : R (.bl l.isEmpty) G) : dEq (.rol l) (.rol []) G R := by
  refine ⟨.list ts, .list [], .rol h, .rol .nil, s, shaped_nil, ?_⟩
  rw [eqv_nil]
  have : ts.isEmpty = l.isEmpty := by
    have := h.len
    cases l <;> cases ts <;> first | rfl | cases this
  rw [this]
  exact q
/-- the same data on both sides -/
theorem vne_self {l m : List D} {ts : List PyData} {G : DH} {R : DK} (h : RddL G l ts) (h' : RddL G m ts) (s : SeqAt.shaped (.list ts) = true) (q : R (.bl false) G) : dNe (.rol l) (.rol m) G R := by
  refine ⟨.list ts, .list ts, .rol h, .rol h', s, s, ?_⟩
  rw [SeqAt.eqv_refl _ (by unfold SeqAt.shaped at s; rw [Bool.and_eq_true] at s; exact s.1)]
  exact q
theorem draws_sub {G G' : DH} {a : Addr} {l : List D} (s : Sub G G') (h : G a = some (.lst l)) : G' a = some (.lst l) := s _ _ h
theorem pow_int {i : Int} {n : Nat} {G : DH} {R : DK} (h : CPow i n) (q : R (.int (i ^ n)) G) : dPow (.int i) (.int n) G R := ⟨h, by simpa using q⟩
end Cc
/-! ### plans: models, promises -/
namespace Pl
open PySem PySem.Spec PyProof.Rows L2 Cc
open PySem.W (EachIs AllAlike Sortable dataLe)
def oD : Option Int → D
  | none => .non
  | some i => .int i
def oP : Option Int → PyData
  | none => .none
  | some i => .int i
inductive Atom : D → Prop
  | non : Atom .non
  | bl (b : Bool) : Atom (.bl b)
  | int (i : Int) : Atom (.int i)
  | str (s : Str) : Atom (.str s)
theorem atom_oD (o : Option Int) : Atom (oD o) := by cases o; exact .non; exact .int _
def btw (x : D) (lo hi : Int) : Bool := match x with
  | .int i => decide (lo ≤ i) && decide (i ≤ hi)
  | _ => false
def isPlan : List D → Bool
  | [a, b, c, d] => btw a 0 999 && btw b 1 50 && (btw c 1 100 && btw d 1 12)
  | _ => false
structure Plan where
  b : Int
  l : Int
  e : Int
  m : Int
deriving DecidableEq
def Plan.ds (p : Plan) : List D := [.int p.b, .int p.l, .int p.e, .int p.m]
def Plan.d (p : Plan) : D := .tup p.ds
structure Plan.Ok (p : Plan) : Prop where
  b0 : 0 ≤ p.b
  b1 : p.b ≤ 999
  l0 : 1 ≤ p.l
  l1 : p.l ≤ 50
  e0 : 1 ≤ p.e
  e1 : p.e ≤ 100
  m0 : 1 ≤ p.m
  m1 : p.m ≤ 12
theorem isPlan_ok {p : Plan} (h : p.Ok) : isPlan p.ds = true := by
  obtain ⟨a, b, c, d, e, f, g, i⟩ := h
  simp only [isPlan, Plan.ds, btw, Bool.and_eq_true, decide_eq_true_eq]
  omega
theorem ok_of_isPlan {l : List D} (h : isPlan l = true) : ∃ p : Plan, l = p.ds ∧ p.Ok := by
  unfold isPlan at h
  split at h
  · rename_i a b c d
    simp only [Bool.and_eq_true] at h
    obtain ⟨⟨h1, h2⟩, h3, h4⟩ := h
    unfold btw at h1 h2 h3 h4
    split at h1
    · split at h2
      · split at h3
        · split at h4
          · simp only [Bool.and_eq_true, decide_eq_true_eq] at h1 h2 h3 h4
            exact ⟨⟨_, _, _, _⟩, rfl, h1.1, h1.2, h2.1, h2.2, h3.1, h3.2, h4.1, h4.2⟩
          · cases h4
        · cases h3
      · cases h2
    · cases h1
  · cases h
structure One where
  k : Int
  n : Int
  b : Option Int
deriving DecidableEq
def One.d (o : One) : D := .tup [.int o.k, .int o.n, oD o.b]
def onesD (os : List One) : D := .tup (os.map One.d)
/-- how often, and where to -/
def chg (os : List One) (k : Int) : Int × Option Int := match os.find? (fun o => decide (o.k = k)) with
  | some o => (o.n, o.b)
  | none => (0, none)
def byK (l : List One) : List One := l.mergeSort fun a b => decide (a.k ≤ b.k)
def changed (os : List One) (k : Int) (b : Option Int) : List One := byK (os.filter (fun o => !decide (o.k = k)) ++ [⟨k, (chg os k).1 + 1, b⟩])
structure Row where
  k : Nat
  b : Option Int
  n : Int
deriving DecidableEq
def Row.d (r : Row) : D := .tup [.int (r.k : Int), oD r.b, .int r.n]
def Row.p (r : Row) : PyData := .tuple [.int (r.k : Int), oP r.b, .int r.n]
def rowOf (p : Plan) (os : List One) (k : Nat) : Row := ⟨k, if (chg os k).1 = 0 then some (p.b + k * p.e) else (chg os k).2, (chg os k).1⟩
def rowsOf (p : Plan) (os : List One) : List Row := (List.range p.m.toNat).map (rowOf p os)
/-! the promises -/
def sd_is_between : SpD := fun ds G R _ => ∃ x lo hi, ds = [x, .int lo, .int hi] ∧ Atom x ∧ R (.bl (btw x lo hi)) G
def sd_is_plan : SpD := fun ds G R _ => ∃ l, ds = [.tup l] ∧ (∀ x ∈ l, Atom x) ∧ R (.bl (isPlan l)) G
def sd_need_plan (C : Addr) : SpD := fun ds G R EX => ∃ l, ds = [.tup l] ∧ (∀ x ∈ l, Atom x) ∧ (isPlan l = true → R .non G) ∧ (isPlan l = false → EX (.ref C) none G)
def sd_change_of : SpD := fun ds G R _ => ∃ os k, ds = [onesD os, .int k] ∧ R (.tup [.int (chg os k).1, oD (chg os k).2]) G
def sd_changed : SpD := fun ds G R _ => ∃ os k b, ds = [onesD os, .int k, oD b] ∧ os.length ≤ 1000 ∧ R (onesD (changed os k b)) G
def sd_rows_of : SpD := fun ds G R _ => ∃ (p : Plan) (os : List One), ds = [p.d, onesD os] ∧ 0 ≤ p.m ∧ p.m ≤ 1000 ∧ R (.rol ((Pl.rowsOf p os).map Row.d)) G
/-- the same, the list not read as a value -/
def sd_rows_of' : SpD := fun ds G R _ => ∃ (p : Plan) (os : List One), ds = [p.d, onesD os] ∧ 0 ≤ p.m ∧ p.m ≤ 1000 ∧ ∀ a, G a = none → R (.ref a) (updD G a (.lst ((Pl.rowsOf p os).map Row.d)))
/-! what changes come to -/
theorem byK_mem {l : List One} {o : One} : o ∈ byK l ↔ o ∈ l := (List.mergeSort_perm l _).mem_iff
/-- no two of the same number -/
def Ndk (os : List One) : Prop := (os.map (·.k)).Nodup
theorem ndk_perm {l l' : List One} (h : l.Perm l') (n : Ndk l) : Ndk l' := (h.map _).nodup_iff.mp n
theorem chg_of {os : List One} (n : Ndk os) {o : One} (h : o ∈ os) : chg os o.k = (o.n, o.b) := by
  unfold chg
  induction os with
  | nil => cases h
  | cons x xs ih =>
    obtain ⟨n1, n2⟩ := List.nodup_cons.mp n
    rcases List.mem_cons.mp h with rfl | h
    · rw [List.find?_cons_of_pos (by simp)]
    · have ne : x.k ≠ o.k := fun e => n1 (List.mem_map.mpr ⟨o, h, e.symm⟩)
      rw [List.find?_cons_of_neg (by simp [ne])]
      exact ih n2 h
theorem chg_none {os : List One} {k : Int} (h : ∀ o ∈ os, o.k ≠ k) : chg os k = (0, none) := by
  unfold chg
  rw [List.find?_eq_none.mpr fun o ho => by simp [h o ho]]
theorem chg_perm {l l' : List One} (h : l.Perm l') (n : Ndk l) (k : Int) : chg l k = chg l' k := by
  by_cases hk : ∃ o ∈ l, o.k = k
  · obtain ⟨o, ho, rfl⟩ := hk
    rw [chg_of n ho, chg_of (ndk_perm h n) (h.mem_iff.mp ho)]
  · have h1 : ∀ o ∈ l, o.k ≠ k := fun o ho e => hk ⟨o, ho, e⟩
    rw [chg_none h1, chg_none fun o ho => h1 o (h.mem_iff.mpr ho)]
theorem ndk_changed {os : List One} (n : Ndk os) (k : Int) (b : Option Int) : Ndk (changed os k b) := by
  refine ndk_perm (List.mergeSort_perm _ _).symm ?_
  unfold Ndk
  rw [List.map_append, List.nodup_append]
  refine ⟨n.sublist (List.filter_sublist.map _), by simp, fun a ha c hc e => ?_⟩
  obtain ⟨o, ho, rfl⟩ := List.mem_map.mp ha
  have := (List.mem_filter.mp ho).2
  simp at hc
  rw [e, hc] at this
  simp at this
theorem chg_changed {os : List One} (n : Ndk os) (k : Int) (b : Option Int) (j : Int) : chg (changed os k b) j = if j = k then ((chg os k).1 + 1, b) else chg os j := by
  have hn := ndk_changed n k b
  have mem : ∀ o, o ∈ changed os k b ↔ o ∈ os.filter (fun o => !decide (o.k = k)) ∨ o = ⟨k, (chg os k).1 + 1, b⟩ := fun o => by
    unfold changed
    rw [byK_mem, List.mem_append, List.mem_singleton]
  by_cases h : j = k
  · subst h
    rw [if_pos rfl]
    exact chg_of (o := ⟨j, (chg os j).1 + 1, b⟩) hn ((mem _).mpr (.inr rfl))
  · rw [if_neg h]
    by_cases hj : ∃ o ∈ os, o.k = j
    · obtain ⟨o, ho, rfl⟩ := hj
      rw [chg_of hn ((mem o).mpr (.inl (List.mem_filter.mpr ⟨ho, by simp [h]⟩))), chg_of n ho]
    · have h1 : ∀ o ∈ os, o.k ≠ j := fun o ho e => hj ⟨o, ho, e⟩
      rw [chg_none h1, chg_none fun o ho => ?_]
      rcases (mem o).mp ho with ho | rfl
      · exact h1 o (List.mem_filter.mp ho).1
      · exact fun e => h e.symm
theorem changed_len (os : List One) (k : Int) (b : Option Int) : (changed os k b).length ≤ os.length + 1 := by
  unfold changed byK
  rw [List.length_mergeSort, List.length_append]
  have := List.length_filter_le (fun o : One => !decide (o.k = k)) os
  simp
  omega
end Pl
/-! ### plans: readings -/
namespace Pl
open PySem PySem.Spec PyProof.Rows L2 Cc
def b_is_between : DSt :=
  (sRet (dAndV (dCB dIsi (dCons (dVar 0) (dCons (dC (.ty "int")) dNil))) (dAndV (dNotV (dCB dIsi (dCons (dVar 0) (dCons (dC (.ty "bool")) dNil)))) (dChain dLe dLe (dVar 1) (dVar 0) (dVar 2)))))
abbrev N_is_between : List Str := ["part", "low", "high"]
def b_is_plan : DSt :=
  (sSeq (sIf (dOr (dNot (dTest (dCB dIsi (dCons (dVar 0) (dCons (dC (.ty "tuple")) dNil))))) (dTest (dOp dNe (dCB dLen (dCons (dVar 0) dNil)) (dC (.int 4))))) (sRet (dC (.bl false))) sNext)
  (sSeq (sAsg (dVar 0) (gT 4 (gsCons (gN 1) (gsCons (gN 2) (gsCons (gN 3) (gsCons (gN 4) gsNil))))))
  (sSeq (sAsg (dAndV (dCall sd_is_between (dCons (dVar 1) (dCons (dC (.int 0)) (dCons (dC (.int 999)) dNil)))) (dCall sd_is_between (dCons (dVar 2) (dCons (dC (.int 1)) (dCons (dC (.int 50)) dNil))))) (gN 5))
  (sRet (dAndV (dVar 5) (dAndV (dCall sd_is_between (dCons (dVar 3) (dCons (dC (.int 1)) (dCons (dC (.int 100)) dNil)))) (dCall sd_is_between (dCons (dVar 4) (dCons (dC (.int 1)) (dCons (dC (.int 12)) dNil))))))))))
abbrev N_is_plan : List Str := ["plan", "begin", "long", "every", "many", "good"]
def b_need_plan (C_BadPlan : Addr) : DSt :=
  (sIf (dNot (dTest (dCall sd_is_plan (dCons (dVar 0) dNil)))) (sRaise C_BadPlan) sNext)
abbrev N_need_plan : List Str := ["plan"]
def b_is_name : DSt :=
  (sRet (dAndV (dCB dIsi (dCons (dVar 0) (dCons (dC (.ty "str")) dNil))) (dAndV (dOp dLe (dCB dLen (dCons (dVar 0) dNil)) (dC (.int 10))) (dOp dEq (dLcF (iSq (dVar 0)) (gN 1) (dTest (dOp dNotIn (dVar 1) (dC (.str "abcdefghijklmnopqrstuvwxyz")))) (dVar 1) [1]) (dLstF dNil)))))
abbrev N_is_name : List Str := ["text", "sign"]
def b_change_of : DSt :=
  (sSeq (sFor (iSq (dVar 0)) (gT 3 (gsCons (gN 2) (gsCons (gN 3) (gsCons (gN 4) gsNil)))) (sIf (dTest (dOp dEq (dVar 2) (dVar 1))) (sRet (dTup (dCons (dVar 3) (dCons (dVar 4) dNil)))) sNext))
  (sRet (dTup (dCons (dC (.int 0)) (dCons (dC .non) dNil)))))
abbrev N_change_of : List Str := ["ones", "k", "number", "often", "begin"]
def b_changed : DSt :=
  (sSeq (sAsg (dOp dAddF (dOp dIx (dCall sd_change_of (dCons (dVar 0) (dCons (dVar 1) dNil))) (dC (.int 0))) (dC (.int 1))) (gN 3))
  (sSeq (sAsg (dLcF (iSq (dVar 0)) (gN 5) (dTest (dOp dNe (dOp dIx (dVar 5) (dC (.int 0))) (dVar 1))) (dVar 5) [5]) (gN 4))
  (sRet (dCB dTupC (dCons (dSortGF PyData.int (kI 0) (dOp dAddF (dVar 4) (dLstF (dCons (dTup (dCons (dVar 1) (dCons (dVar 3) (dCons (dVar 2) dNil)))) dNil)))) dNil)))))
abbrev N_changed : List Str := ["ones", "k", "begin", "often", "rest", "row"]
def b_rows_of : DSt :=
  (sSeq (sAsg (dVar 0) (gT 4 (gsCons (gN 2) (gsCons (gN 3) (gsCons (gN 4) (gsCons (gN 5) gsNil))))))
  (sSeq (sAsg (dLst dNil) (gN 6))
  (sSeq (sFor (iRange1 (dVar 5)) (gN 7) (sSeq (sAsg (dCall sd_change_of (dCons (dVar 1) (dCons (dVar 7) dNil))) (gT 2 (gsCons (gN 8) (gsCons (gN 9) gsNil))))
  (sDrop (dBM "list" mAppend (dVar 6) (dCons (dTup (dCons (dVar 7) (dCons (dIf (dTest (dOp dEq (dVar 8) (dC (.int 0)))) (dOp dAddF (dVar 2) (dOp dMulF (dVar 7) (dVar 4))) (dVar 9)) (dCons (dVar 8) dNil)))) dNil)))))
  (sFz 6 (sRet (dVar 6))))))
abbrev N_rows_of : List Str := ["plan", "ones", "begin", "long", "every", "many", "found", "k", "often", "other"]
def b_rows_of' : DSt :=
  (sSeq (sAsg (dVar 0) (gT 4 (gsCons (gN 2) (gsCons (gN 3) (gsCons (gN 4) (gsCons (gN 5) gsNil))))))
  (sSeq (sAsg (dLst dNil) (gN 6))
  (sSeq (sFor (iRange1 (dVar 5)) (gN 7) (sSeq (sAsg (dCall sd_change_of (dCons (dVar 1) (dCons (dVar 7) dNil))) (gT 2 (gsCons (gN 8) (gsCons (gN 9) gsNil))))
  (sDrop (dBM "list" mAppend (dVar 6) (dCons (dTup (dCons (dVar 7) (dCons (dIf (dTest (dOp dEq (dVar 8) (dC (.int 0)))) (dOp dAddF (dVar 2) (dOp dMulF (dVar 7) (dVar 4))) (dVar 9)) (dCons (dVar 8) dNil)))) dNil)))))
  (sRet (dVar 6)))))
end Pl
/-! ### plans: the defs by their readings -/
namespace Pl
open PySem PySem.Spec PyProof.Rows L2 Cc
open PySem.W (EachIs AllAlike Sortable dataLe)
end Pl
local macro_rules | `(tactic| walk_at "rd") => `(tactic| try simp only [Cc.sSeq, Cc.sIf, Cc.sAsg, Cc.sRet, Cc.sRetN, Cc.sDrop, Cc.sNext, Cc.gN, Cc.gT, Cc.gsCons, Cc.gsNil, Cc.gsNames, Cc.wipeD, Cc.D.tl, Cc.dTest, Cc.dAnd, Cc.dOr, Cc.dNot, Cc.dAndV, Cc.dOrV, Cc.dNotV, Cc.dIf, Cc.dOp, Cc.dUn, Cc.dVar, Cc.dC, Cc.dCons, Cc.dNil, Cc.dCB, Cc.dCall, Cc.dTup, Cc.dLst, Cc.dLstF, Cc.dYes, Cc.blD_bl, Cc.dEq_int, Cc.dNe_int, Cc.dEq_bl, Cc.dNe_bl, Cc.dEq_str, Cc.dChain, Cc.vadd_int, Cc.vadd_rol, Cc.vadd_tup, Cc.vmul_int, Cc.vsub_int, Cc.vlt_int, Cc.vle_int, Cc.vgt_int, Cc.vge_int, Cc.vmax_int, Cc.vmin_int, Cc.vneg_int, Cc.vlen_tup, Cc.vlen_rol, Cc.vtup_rol, Cc.vtup_tup, Cc.vlist_rol, Cc.vlist_tup, Cc.vix_tup, Cc.vix_rol, Cc.vat_0, Cc.vat_1, Cc.vat_2, Cc.vat_3, Cc.vat_4, Cc.vat_5, Cc.vat_6, Cc.vsl_tup, Cc.vsl_rol, Cc.visi_non_bool, Cc.visi_non_int, Cc.visi_non_str, Cc.visi_non_tuple, Cc.visi_non_list, Cc.visi_bl_bool, Cc.visi_bl_int, Cc.visi_bl_str, Cc.visi_bl_tuple, Cc.visi_bl_list, Cc.visi_int_bool, Cc.visi_int_int, Cc.visi_int_str, Cc.visi_int_tuple, Cc.visi_int_list, Cc.visi_str_bool, Cc.visi_str_int, Cc.visi_str_str, Cc.visi_str_tuple, Cc.visi_str_list, Cc.visi_tup_bool, Cc.visi_tup_int, Cc.visi_tup_str, Cc.visi_tup_tuple, Cc.visi_tup_list, Cc.visi_key_bool, Cc.visi_key_int, Cc.visi_key_str, Cc.visi_key_tuple, Cc.visi_key_list, Cc.visi_rol_bool, Cc.visi_rol_int, Cc.visi_rol_str, Cc.visi_rol_tuple, Cc.visi_rol_list, Cc.dBM, Cc.vtyL, Cc.vapp, Cc.vlen_upd, Cc.vix_upd, Cc.vsz_0, Cc.vsz_1, Cc.vsz_2, Cc.vsz_3, Cc.vsz_4, Cc.vsz_5, Cc.vsz_6, Cc.vsz_7, Cc.vsz_8, Cc.vsz_9, Cc.dIsN, Cc.dNotN, Cc.D.isN, List.getElem?_cons_zero, List.getElem?_cons_succ, List.set_cons_zero, List.set_cons_succ, List.length_cons, List.length_nil, decide_eq_true_eq, if_true, if_false, Bool.false_eq_true, ite_true, ite_false, true_and, and_true, Bool.not_true, Bool.not_false])
namespace Pl
open PySem PySem.Spec PyProof.Rows L2 Cc
open PySem.W (EachIs AllAlike Sortable dataLe)
theorem pure_is_between (ds : List D) (G : DH) (R : DK) (EX : DX) (h : sd_is_between ds G R EX) : b_is_between (endsD (frg R) EX) (startD N_is_between ds) G := by
  obtain ⟨x, lo, hi, rfl, ha, q⟩ := h
  show b_is_between (endsD (frg R) EX) [some x, some (.int lo), some (.int hi)] G
  have q := frg_of q
  unfold b_is_between
  cases ha with
  | non => walk_at "rd"; exact q
  | str s => walk_at "rd"; exact q
  | bl b => walk_at "rd"; exact q
  | int i =>
    walk_at "rd"
    unfold btw at q
    dsimp only at q
    by_cases h : lo ≤ i
    · rw [if_pos h]
      rw [decide_eq_true h, Bool.true_and] at q
      exact q
    · rw [if_neg h]
      rw [decide_eq_false h, Bool.false_and] at q
      exact q
theorem pure_is_plan (ds : List D) (G : DH) (R : DK) (EX : DX) (h : sd_is_plan ds G R EX) : b_is_plan (endsD (frg R) EX) (startD N_is_plan ds) G := by
  obtain ⟨l, rfl, ha, q⟩ := h
  show b_is_plan (endsD (frg R) EX) [some (.tup l), none, none, none, none, none] G
  have q := frg_of q
  unfold b_is_plan
  walk_at "rd"
  by_cases hl : l.length = 4
  · match l, hl with
    | [a, b, c, d], _ =>
      walk_at "rd"
      rw [if_neg (by simp)]
      refine ⟨a, 0, 999, rfl, ha a (by simp), ?_⟩
      unfold isPlan at q
      dsimp only at q
      walk_at "rd"
      have k2 : ∀ g : Bool, g = (btw a 0 999 && btw b 1 50) → ∀ o : Option D, dAndV (dVar 5) (dAndV (dCall sd_is_between (dCons (dVar 3) (dCons (dC (.int 1)) (dCons (dC (.int 100)) dNil)))) (dCall sd_is_between (dCons (dVar 4) (dCons (dC (.int 1)) (dCons (dC (.int 12)) dNil))))) [some (.tup [a, b, c, d]), some a, some b, some c, some d, some (.bl g)] G (frg R) EX := fun g eg o => by
        subst eg
        walk_at "rd"
        by_cases hg : (btw a 0 999 && btw b 1 50) = true
        · rw [if_pos hg]
          rw [hg, Bool.true_and] at q
          refine ⟨c, 1, 100, rfl, ha c (by simp), ?_⟩
          walk_at "rd"
          by_cases hc : btw c 1 100 = true
          · rw [if_pos hc]
            rw [hc, Bool.true_and] at q
            exact ⟨d, 1, 12, rfl, ha d (by simp), q⟩
          · rw [if_neg hc]
            rw [Bool.eq_false_iff.mpr hc, Bool.false_and] at q
            exact q
        · rw [if_neg hg]
          rw [Bool.eq_false_iff.mpr hg, Bool.false_and] at q
          exact q
      by_cases h1 : btw a 0 999 = true
      · rw [if_pos h1]
        refine ⟨b, 1, 50, rfl, ha b (by simp), ?_⟩
        exact k2 _ (by rw [h1, Bool.true_and]) none
      · rw [if_neg h1]
        exact k2 false (by rw [Bool.eq_false_iff.mpr h1, Bool.false_and]) none
  · have : isPlan l = false := by
      unfold isPlan
      split
      · exact absurd rfl hl
      · rfl
    rw [this] at q
    rw [if_pos (by simp; omega)]
    exact q
theorem pure_need_plan (C : Addr) (ds : List D) (G : DH) (R : DK) (EX : DX) (h : sd_need_plan C ds G R EX) : b_need_plan C (endsD (frg R) EX) (startD N_need_plan ds) G := by
  obtain ⟨l, rfl, ha, q1, q2⟩ := h
  show b_need_plan C (endsD (frg R) EX) [some (.tup l)] G
  unfold b_need_plan
  walk_at "rd"
  refine ⟨l, rfl, ha, ?_⟩
  walk_at "rd"
  cases e : isPlan l with
  | true => exact frg_of (q1 e)
  | false => exact q2 e
theorem pure_change_of (ds : List D) (G : DH) (R : DK) (EX : DX) (h : sd_change_of ds G R EX) : b_change_of (endsD (frg R) EX) (startD N_change_of ds) G := by
  obtain ⟨os, k, rfl, q⟩ := h
  have q := frg_of q
  show b_change_of (endsD (frg R) EX) [some (onesD os), some (.int k), none, none, none] G
  unfold b_change_of sSeq sFor onesD
  rw [vsq_tup rfl]
  refine goFor_map (fun xs δ G' => δ.length = 5 ∧ (∃ o2 o3 o4, δ = [some (.tup (os.map One.d)), some (.int k), o2, o3, o4]) ∧ G' = G ∧ chg xs k = chg os k) (fun _ _ _ _ => trivial) (fun δ G' ⟨_, ⟨o2, o3, o4, e⟩, eG, ec⟩ => ?_) (fun x xs δ G' N ⟨_, ⟨o2, o3, o4, e⟩, eG, ec⟩ hN => ?_) _ _ _ ⟨rfl, ⟨_, _, _, rfl⟩, rfl, rfl⟩
  · subst e eG
    rw [← ec] at q
    walk_at "rd"
    exact q
  · subst e eG
    unfold One.d
    walk_at "rd"
    by_cases h : x.k = k
    · rw [if_pos h]
      have e : chg (x :: xs) k = (x.n, x.b) := by
        unfold chg
        rw [List.find?_cons_of_pos (by simp [h])]
      rw [← ec, e] at q
      exact q
    · rw [if_neg h]
      refine hN _ _ ⟨rfl, ⟨_, _, _, rfl⟩, rfl, ?_⟩
      rw [← ec]
      unfold chg
      rw [List.find?_cons_of_neg (by simp [h])]
theorem pure_changed (ds : List D) (G : DH) (R : DK) (EX : DX) (h : sd_changed ds G R EX) : b_changed (endsD (frg R) EX) (startD N_changed ds) G := by
  obtain ⟨os, k, b, rfl, hl, q⟩ := h
  have q := frg_of q
  show b_changed (endsD (frg R) EX) [some (onesD os), some (.int k), some (oD b), none, none, none] G
  unfold b_changed
  walk_at "rd"
  refine ⟨os, k, rfl, ?_⟩
  walk_at "rd"
  unfold dLcF onesD
  rw [vsq_tup rfl]
  refine goLcF_map (fun o : One => if o.k = k then none else some o.d) trivial (fun x C1 C2 hx => ?_) os [] (by simp; exact sz_small (by omega)) ?_
  · unfold One.d
    walk_at "rd"
    by_cases h : x.k = k
    · simp only [h, if_true] at hx
      simp only [h, decide_true, Bool.not_true, Bool.false_eq_true, if_false]
      exact hx
    · simp only [h, if_false] at hx
      simp only [h, decide_false, Bool.not_false, if_true]
      exact hx
  · have e : (os.filterMap fun o : One => if o.k = k then none else some o.d) = (os.filter fun o => !decide (o.k = k)).map One.d := by
      clear hl
      revert os
      intro os q q'
      clear q q'
      induction os with
      | nil => rfl
      | cons o os ih =>
        rw [List.filterMap_cons, List.filter_cons, ih]
        by_cases h : o.k = k
        · simp [h]
        · simp [h]
    rw [e, List.nil_append]
    walk_at "rd"
    simp only [dSortGF]
    walk_at "rd"
    have hf := List.length_filter_le (fun o : One => !decide (o.k = k)) os
    refine ⟨by rw [List.length_map]; exact sz_small (by omega), ?_⟩
    have e2 : ((os.filter fun o : One => !decide (o.k = k)).map One.d ++ [D.tup [.int k, .int ((chg os k).1 + 1), oD b]]) = ((os.filter fun o : One => !decide (o.k = k)) ++ [(⟨k, (chg os k).1 + 1, b⟩ : One)]).map One.d := by
      rw [List.map_append]; rfl
    rw [e2]
    refine ⟨_, ((os.filter fun o : One => !decide (o.k = k)) ++ [(⟨k, (chg os k).1 + 1, b⟩ : One)]).map One.k, rfl, ?_, ?_, ?_⟩
    · rw [List.map_map, List.map_map]
      refine List.map_congr_left fun o _ => rfl
    · rw [List.length_map, List.length_append]; exact sz_small (by simp; omega)
    · rw [sortG_map]
      exact q
theorem rows_loop {p : Plan} {os : List One} {f : Addr} {G : DH} {Dn : DEnds} (hm0 : 0 ≤ p.m) (hm : p.m ≤ 1000) (hf : G f = none)
    (q : ∀ o7 o8 o9, Dn.nx [some p.d, some (onesD os), some (.int p.b), some (.int p.l), some (.int p.e), some (.int p.m), some (.ref f), o7, o8, o9] (updD G f (.lst ((Pl.rowsOf p os).map Row.d)))) :
    sFor (iRange1 (dVar 5)) (gN 7) (sSeq (sAsg (dCall sd_change_of (dCons (dVar 1) (dCons (dVar 7) dNil))) (gT 2 (gsCons (gN 8) (gsCons (gN 9) gsNil))))
  (sDrop (dBM "list" mAppend (dVar 6) (dCons (dTup (dCons (dVar 7) (dCons (dIf (dTest (dOp dEq (dVar 8) (dC (.int 0)))) (dOp dAddF (dVar 2) (dOp dMulF (dVar 7) (dVar 4))) (dVar 9)) (dCons (dVar 8) dNil)))) dNil)))) Dn [some p.d, some (onesD os), some (.int p.b), some (.int p.l), some (.int p.e), some (.int p.m), some (.ref f), none, none, none] (updD G f (.lst [])) := by
  unfold sFor iRange1
  walk_at "rd"
  refine ⟨⟨by omega, by omega⟩, ?_⟩
  rw [rangeD_map]
  refine goFor_map (f := fun i : Nat => D.int (i : Int)) (fun xs δ G' => (∃ o7 o8 o9, δ = [some p.d, some (onesD os), some (.int p.b), some (.int p.l), some (.int p.e), some (.int p.m), some (.ref f), o7, o8, o9]) ∧ ∃ pre, pre ++ xs = List.range p.m.toNat ∧ G' = updD G f (.lst ((pre.map (rowOf p os)).map Row.d))) (fun _ _ _ _ => trivial) (fun δ G' ⟨⟨o7, o8, o9, e⟩, pre, ep, eG⟩ => ?_) (fun x xs δ G' N ⟨⟨o7, o8, o9, e⟩, pre, ep, eG⟩ hN => ?_) _ _ _ ⟨⟨_, _, _, rfl⟩, [], rfl, rfl⟩
  · subst e eG
    rw [List.append_nil] at ep
    subst ep
    exact q _ _ _
  · subst e eG
    walk_at "rd"
    refine ⟨os, x, rfl, ?_⟩
    walk_at "rd"
    have hx : x ≤ 1000 := by
      have h1 : x ∈ List.range p.m.toNat := by rw [← ep]; simp
      have := List.mem_range.mp h1
      omega
    have nxt : N [some p.d, some (onesD os), some (.int p.b), some (.int p.l), some (.int p.e), some (.int p.m), some (.ref f), some (.int x), some (.int (chg os x).1), some (oD (chg os x).2)] (updD G f (.lst ((pre.map (rowOf p os)).map Row.d ++ [(rowOf p os x).d]))) := hN _ _ ⟨⟨_, _, _, rfl⟩, pre ++ [x], by rw [List.append_assoc]; exact ep, by rw [List.map_append, List.map_append]; rfl⟩
    have hl : ((pre.map (rowOf p os)).map Row.d).length < sizeLine := by
      have := congrArg List.length ep
      rw [List.length_append, List.length_range, List.length_cons] at this
      rw [List.length_map, List.length_map]
      exact Nat.lt_of_lt_of_le (show pre.length < 100000 by omega) (by rw [sizeLine_eq]; omega)
    unfold rowOf Row.d at nxt
    dsimp only at nxt
    by_cases h0 : (chg os x).1 = 0
    · rw [if_pos h0] at nxt ⊢
      exact ⟨by unfold CMul; omega, hl, nxt⟩
    · rw [if_neg h0] at nxt ⊢
      exact ⟨hl, nxt⟩
theorem pure_rows_of (ds : List D) (G : DH) (R : DK) (EX : DX) (h : sd_rows_of ds G R EX) : b_rows_of (endsD (frg R) EX) (startD N_rows_of ds) G := by
  obtain ⟨p, os, rfl, hm0, hm, q⟩ := h
  have q := frg_of q
  show b_rows_of (endsD (frg R) EX) [some p.d, some (onesD os), none, none, none, none, none, none, none, none] G
  unfold b_rows_of Plan.d Plan.ds
  walk_at "rd"
  intro f hf
  refine rows_loop (p := p) hm0 hm hf fun o7 o8 o9 => ?_
  dsimp only
  refine sFz_lst rfl updD_same ?_
  rw [delD_updD hf]
  walk_at "rd"
  exact q
theorem pure_rows_of' (ds : List D) (G : DH) (R : DK) (EX : DX) (h : sd_rows_of' ds G R EX) : b_rows_of' (endsD (frg R) EX) (startD N_rows_of ds) G := by
  obtain ⟨p, os, rfl, hm0, hm, q⟩ := h
  show b_rows_of' (endsD (frg R) EX) [some p.d, some (onesD os), none, none, none, none, none, none, none, none] G
  unfold b_rows_of' Plan.d Plan.ds
  walk_at "rd"
  intro f hf
  refine rows_loop (p := p) hm0 hm hf fun o7 o8 o9 => ?_
  walk_at "rd"
  exact frg_of (q f hf)
end Pl
/-! ### hands: models, promises of records -/
namespace Hd
open PySem PySem.Spec PyProof.Rows L2 Cc Pl
open PySem.W (EachIs AllAlike Sortable dataLe)
/-- where the classes stand -/
structure CA where
  Record : Addr
  Hosted : Addr
  Asked : Addr
  Hand : Addr
  BadHand : Addr
  BadPlan : Addr
  BadWord : Addr
  NoMeeting : Addr
  BadLetter : Addr
abbrev Whole := Int × List (Int × Int) × Str
abbrev SOne := Int × Int × Int × Str
structure Say where
  n : Int
  whole : Option Whole
  ones : List SOne
  pass : Option Int
deriving DecidableEq
def nothing : Say := ⟨0, none, [], none⟩
def oft (p : Int × Int) : D := .tup [.int p.1, .int p.2]
def wholeD : Option Whole → D
  | none => .non
  | some (v, os, w) => .tup [.int v, .ptp (os.map oft), .str w]
def soneD (q : SOne) : D := .tup [.int q.1, .int q.2.1, .int q.2.2.1, .str q.2.2.2]
def Say.d (s : Say) : D := .tup [.int s.n, wholeD s.whole, .tup (s.ones.map soneD), oD s.pass]
abbrev Guest := Int × Option Int
def guestD (g : Guest) : D := .tup [.int g.1, oD g.2]
abbrev HSay := Int × Say
def hsayD (s : HSay) : D := .tup [.int s.1, s.2.d]
structure Rec where
  stamp : Int
  version : Int
  over : Bool
  plan : Plan
  note : Str
  ones : List One
  guests : List Guest
  says : List HSay
deriving DecidableEq
def Rec.ds (r : Rec) : List D := [.int r.stamp, .int r.version, .bl r.over, r.plan.d, .str r.note, onesD r.ones, .tup (r.guests.map guestD), .ptp (r.says.map hsayD)]
def Rec.d (r : Rec) : D := .tup r.ds
def Rec.fs (r : Rec) : List (Str × D) := [("stamp", .int r.stamp), ("version", .int r.version), ("over", .bl r.over), ("plan", r.plan.d), ("note", .str r.note), ("ones", onesD r.ones), ("guests", .tup (r.guests.map guestD)), ("says", .ptp (r.says.map hsayD))]
def byH {α : Type} (l : List (Int × α)) : List (Int × α) := l.mergeSort fun a b => decide (a.1 ≤ b.1)
def Rec.hands (r : Rec) : List Int := r.guests.map (·.1)
def Rec.sayOf (r : Rec) (h : Int) : Say := match r.says.find? (fun s => decide (s.1 = h)) with
  | some s => s.2
  | none => nothing
def Rec.grow (r : Rec) : Rec := { r with stamp := r.stamp + 1 }
def Rec.move (r : Rec) (b : Int) : Rec := { r with plan := { r.plan with b := b }, version := r.version + 1, ones := [], stamp := r.stamp + 1 }
def Rec.moveOne (r : Rec) (k : Int) (b : Option Int) : Rec := { r with ones := Pl.changed r.ones k b, stamp := r.stamp + 1 }
def Rec.hear (r : Rec) (h : Int) (s : Say) : Rec := { r with says := byH (r.says.filter (fun x => !decide (x.1 = h)) ++ [(h, s)]), stamp := r.stamp + 1 }
def Rec.add (r : Rec) (h : Int) (by_ : Option Int) (s : Say) : Rec := { r with guests := byH (r.guests ++ [(h, by_)]) }.hear h s
def Rec.drop (r : Rec) (h : Int) : Rec := { r with guests := r.guests.filter (fun x => !decide (x.1 = h)), says := r.says.filter (fun x => !decide (x.1 = h)), stamp := r.stamp + 1 }
def first (p : Plan) (gs : List Int) : Rec := ⟨1, 1, false, p, "", [], (sortI gs).map fun h => (h, none), []⟩
/-- what is said of one of the row -/
def wordOf (s : Say) (v : Int) (os : List One) (k : Int) : Str := match s.pass with
  | some _ => "passed"
  | none => match s.ones.find? (fun q => decide ((q.1, q.2.1, q.2.2.1) = (k, v, (chg os k).1))) with
    | some q => q.2.2.2
    | none => match s.whole with
      | some (v', oft, w) => if v' = v ∧ ((oft.find? fun p => decide (p.1 = k)).map (·.2)).getD 0 = (chg os k).1 then w else "asked"
      | none => "asked"
def wordsOf (s : Say) (v : Int) (os : List One) (m : Int) : List Str := (List.range m.toNat).map fun k : Nat => wordOf s v os k
structure Say.Ok (s : Say) : Prop where
  oft : ∀ v os w, s.whole = some (v, os, w) → (os.map (·.1)).Nodup ∧ os.length ≤ 1000
  ones : s.ones.length ≤ 1000
structure Rec.Ok (r : Rec) : Prop where
  plan : r.plan.Ok
  ones : r.ones.length ≤ 100
  guests : r.guests.length ≤ 100
  says : r.says.length ≤ 100
  nd : (r.says.map (·.1)).Nodup
  say : ∀ s ∈ r.says, s.2.Ok
/-- a row of a book -/
structure ToldG where
  h : Int
  by_ : Option Int
  words : List Str
structure Told where
  host : Int
  number : Int
  version : Int
  note : Str
  long : Int
  rows : List Pl.Row
  guests : List ToldG
def ToldG.d (g : ToldG) : D := .tup [.int g.h, oD g.by_, .rol (g.words.map .str)]
def Told.d (t : Told) : D := .tup [.int t.host, .int t.number, .int t.version, .str t.note, .int t.long, .rol (t.rows.map Pl.Row.d), .rol (t.guests.map ToldG.d)]
def Rec.told (r : Rec) (host number : Int) (me : Option Int) (mine : Say) : Told :=
  ⟨host, number, r.version, r.note, r.plan.l, Pl.rowsOf r.plan r.ones, r.guests.map fun g => ⟨g.1, g.2, wordsOf (if some g.1 = me then mine else r.sayOf g.1) r.version r.ones r.plan.m⟩⟩
/-! the promises -/
def RecAt (ca : CA) (G : DH) (a : Addr) (r : Rec) : Prop := G a = some (.ins ca.Record r.fs)
def putR (ca : CA) (G : DH) (a : Addr) (r : Rec) : DH := updD G a (.ins ca.Record r.fs)
def sd_oftens_of : SpD := fun ds G R _ => ∃ os, ds = [onesD os] ∧ os.length ≤ 1000 ∧ R (.ptp (os.map fun o => oft (o.k, o.n))) G
def sd_word_of : SpD := fun ds G R _ => ∃ (s : Say) (v : Int) (os : List One) (k : Int), ds = [s.d, .int v, onesD os, .int k] ∧ s.Ok ∧ R (.str (wordOf s v os k)) G
def sd_words_of : SpD := fun ds G R _ => ∃ (s : Say) (v : Int) (os : List One) (m : Int), ds = [s.d, .int v, onesD os, .int m] ∧ s.Ok ∧ 0 ≤ m ∧ m ≤ 1000 ∧ R (.rol ((wordsOf s v os m).map .str)) G
def sd_Record__init_ (ca : CA) : SpD := fun ds G R _ => ∃ a r, ds = [.ref a, r.d] ∧ G a = some (.ins ca.Record []) ∧ R .non (putR ca G a r)
def sd_Record_parts (ca : CA) : SpD := fun ds G R _ => ∃ a r, ds = [.ref a] ∧ RecAt ca G a r ∧ R r.d G
def sd_Record_hands (ca : CA) : SpD := fun ds G R _ => ∃ a r, ds = [.ref a] ∧ RecAt ca G a r ∧ r.Ok ∧ R (.rol (r.hands.map .int)) G
def sd_Record_say_of (ca : CA) : SpD := fun ds G R _ => ∃ a r h, ds = [.ref a, .int h] ∧ RecAt ca G a r ∧ r.Ok ∧ R (r.sayOf h).d G
def sd_Record_grow (ca : CA) : SpD := fun ds G R _ => ∃ a r, ds = [.ref a] ∧ RecAt ca G a r ∧ R .non (putR ca G a r.grow)
def sd_Record_move (ca : CA) : SpD := fun ds G R _ => ∃ a r b, ds = [.ref a, .int b] ∧ RecAt ca G a r ∧ R .non (putR ca G a (r.move b))
def sd_Record_move_one (ca : CA) : SpD := fun ds G R _ => ∃ a r k b, ds = [.ref a, .int k, oD b] ∧ RecAt ca G a r ∧ r.Ok ∧ R .non (putR ca G a (r.moveOne k b))
def sd_Record_add (ca : CA) : SpD := fun ds G R _ => ∃ a r h b s, ds = [.ref a, .int h, oD b, s.d] ∧ RecAt ca G a r ∧ r.guests.length ≤ 1000 ∧ r.says.length ≤ 1000 ∧ R .non (putR ca G a (r.add h b s))
def sd_Record_drop (ca : CA) : SpD := fun ds G R _ => ∃ a r h, ds = [.ref a, .int h] ∧ RecAt ca G a r ∧ r.Ok ∧ R .non (putR ca G a (r.drop h))
def sd_Record_hear (ca : CA) : SpD := fun ds G R _ => ∃ a r h s, ds = [.ref a, .int h, s.d] ∧ RecAt ca G a r ∧ r.says.length ≤ 1000 ∧ R .non (putR ca G a (r.hear h s))
def sd_Record_rows (ca : CA) : SpD := fun ds G R _ => ∃ a r, ds = [.ref a] ∧ RecAt ca G a r ∧ r.Ok ∧ R (.rol ((Pl.rowsOf r.plan r.ones).map Pl.Row.d)) G
def sd_Record_told (ca : CA) : SpD := fun ds G R _ => ∃ a r host number me mine, ds = [.ref a, .int host, .int number, oD me, mine.d] ∧ RecAt ca G a r ∧ r.Ok ∧ mine.Ok ∧ R (r.told host number me mine).d G
def sd_first_record (ca : CA) : SpD := fun ds G R _ => ∃ (p : Plan) (gs : List Int), ds = [p.d, .tup (gs.map .int)] ∧ gs.length ≤ 100 ∧ ∀ a, G a = none → R (.ref a) (putR ca G a (first p gs))
end Hd
/-! ### records: readings -/
namespace Hd
open PySem PySem.Spec PyProof.Rows L2 Cc Pl
def b_oftens_of : DSt :=
  (sRet (dCB dTupCP (dCons (dLcF (iSq (dVar 0)) (gT 3 (gsNames [1, 2, 3])) dYes (dTup (dCons (dVar 1) (dCons (dVar 2) dNil))) [1, 2, 3]) dNil)))
abbrev N_oftens_of : List Str := ["ones", "k", "often", "begin"]
def b_word_of : DSt :=
  (sSeq (sIf (dTest (dOp dNotN (dOp dIx (dVar 0) (dC (.int 3))) (dC .non))) (sRet (dC (.str "passed"))) sNext)
  (sSeq (sAsg (dOp dIx (dCall Pl.sd_change_of (dCons (dVar 2) (dCons (dVar 3) dNil))) (dC (.int 0))) (gN 4))
  (sSeq (sFor (iSq (dOp dIx (dVar 0) (dC (.int 2)))) (gT 4 (gsCons (gN 5) (gsCons (gN 6) (gsCons (gN 7) (gsCons (gN 8) gsNil))))) (sIf (dTest (dOp dEq (dTup (dCons (dVar 5) (dCons (dVar 6) (dCons (dVar 7) dNil)))) (dTup (dCons (dVar 3) (dCons (dVar 1) (dCons (dVar 4) dNil)))))) (sRet (dVar 8)) sNext))
  (sSeq (sIf (dAnd (dTest (dOp dNotN (dOp dIx (dVar 0) (dC (.int 1))) (dC .non))) (dAnd (dTest (dOp dEq (dOp dIx (dOp dIx (dVar 0) (dC (.int 1))) (dC (.int 0))) (dVar 1))) (dTest (dOp dEq (dGet2 (dCB dDictF (dCons (dOp dIx (dOp dIx (dVar 0) (dC (.int 1))) (dC (.int 1))) dNil)) (dVar 3) (dC (.int 0))) (dVar 4))))) (sRet (dOp dIx (dOp dIx (dVar 0) (dC (.int 1))) (dC (.int 2)))) sNext)
  (sRet (dC (.str "asked")))))))
abbrev N_word_of : List Str := ["say", "version", "ones", "k", "often", "number", "one_version", "one_often", "word"]
def b_words_of : DSt :=
  (sRet (dLcF (iRange1 (dVar 3)) (gN 4) dYes (dCall sd_word_of (dCons (dVar 0) (dCons (dVar 1) (dCons (dVar 2) (dCons (dVar 4) dNil))))) [4]))
abbrev N_words_of : List Str := ["say", "version", "ones", "many", "k"]
def b_Record__init_ (ca : CA) : DSt :=
  (sAsg (dVar 1) (gT 8 (gsCons (gF ca.Record "stamp" (dVar 0)) (gsCons (gF ca.Record "version" (dVar 0)) (gsCons (gF ca.Record "over" (dVar 0)) (gsCons (gF ca.Record "plan" (dVar 0)) (gsCons (gF ca.Record "note" (dVar 0)) (gsCons (gF ca.Record "ones" (dVar 0)) (gsCons (gF ca.Record "guests" (dVar 0)) (gsCons (gF ca.Record "says" (dVar 0)) gsNil))))))))))
abbrev N_Record__init_ : List Str := ["self", "parts"]
def b_Record_parts (ca : CA) : DSt :=
  (sRet (dTup (dCons (dFld ca.Record "stamp" (dVar 0)) (dCons (dFld ca.Record "version" (dVar 0)) (dCons (dFld ca.Record "over" (dVar 0)) (dCons (dFld ca.Record "plan" (dVar 0)) (dCons (dFld ca.Record "note" (dVar 0)) (dCons (dFld ca.Record "ones" (dVar 0)) (dCons (dFld ca.Record "guests" (dVar 0)) (dCons (dFld ca.Record "says" (dVar 0)) dNil))))))))))
abbrev N_Record_parts : List Str := ["self"]
def b_Record_hands (ca : CA) : DSt :=
  (sRet (dLcF (iSq (dFld ca.Record "guests" (dVar 0))) (gT 2 (gsNames [1, 2])) dYes (dVar 1) [1, 2]))
abbrev N_Record_hands : List Str := ["self", "hand", "by"]
def b_Record_say_of (ca : CA) : DSt :=
  (sRet (dGet2 (dCB dDictF (dCons (dFld ca.Record "says" (dVar 0)) dNil)) (dVar 1) (dC (.tup [(.int 0), .non, (.tup []), .non]))))
abbrev N_Record_say_of : List Str := ["self", "hand"]
def b_Record_grow (ca : CA) : DSt :=
  (sFldD ca.Record "stamp" (dVar 0) (dOp dAddF (dFld ca.Record "stamp" (dVar 0)) (dC (.int 1))))
abbrev N_Record_grow : List Str := ["self"]
def b_Record_move (ca : CA) : DSt :=
  (sSeq (sFldD ca.Record "plan" (dVar 0) (dOp dAddF (dTup (dCons (dVar 1) dNil)) (dSl sSlF (dFld ca.Record "plan" (dVar 0)) (oSome (dC (.int 1))) oNo)))
  (sSeq (sFldD ca.Record "version" (dVar 0) (dOp dAddF (dFld ca.Record "version" (dVar 0)) (dC (.int 1))))
  (sSeq (sFldD ca.Record "ones" (dVar 0) (dTup dNil))
  (sDrop (dMeth ca.Record "grow" (sd_Record_grow ca) (dVar 0) dNil)))))
abbrev N_Record_move : List Str := ["self", "begin"]
def b_Record_move_one (ca : CA) : DSt :=
  (sSeq (sFldD ca.Record "ones" (dVar 0) (dCall Pl.sd_changed (dCons (dFld ca.Record "ones" (dVar 0)) (dCons (dVar 1) (dCons (dVar 2) dNil)))))
  (sDrop (dMeth ca.Record "grow" (sd_Record_grow ca) (dVar 0) dNil)))
abbrev N_Record_move_one : List Str := ["self", "k", "begin"]
def b_Record_add (ca : CA) : DSt :=
  (sSeq (sFldD ca.Record "guests" (dVar 0) (dCB dTupC (dCons (dSortGF PyData.int (kI 0) (dOp dAddF (dFld ca.Record "guests" (dVar 0)) (dTup (dCons (dTup (dCons (dVar 1) (dCons (dVar 2) dNil))) dNil)))) dNil)))
  (sDrop (dMeth ca.Record "hear" (sd_Record_hear ca) (dVar 0) (dCons (dVar 1) (dCons (dVar 3) dNil)))))
abbrev N_Record_add : List Str := ["self", "hand", "by", "say"]
def b_Record_drop (ca : CA) : DSt :=
  (sSeq (sFldD ca.Record "guests" (dVar 0) (dCB dTupC (dCons (dLcF (iSq (dFld ca.Record "guests" (dVar 0))) (gN 2) (dTest (dOp dNe (dOp dIx (dVar 2) (dC (.int 0))) (dVar 1))) (dVar 2) [2]) dNil)))
  (sSeq (sFldD ca.Record "says" (dVar 0) (dCB dTupCP (dCons (dLcF (iSq (dFld ca.Record "says" (dVar 0))) (gN 2) (dTest (dOp dNe (dOp dIx (dVar 2) (dC (.int 0))) (dVar 1))) (dVar 2) [2]) dNil)))
  (sDrop (dMeth ca.Record "grow" (sd_Record_grow ca) (dVar 0) dNil))))
abbrev N_Record_drop : List Str := ["self", "hand", "row"]
def b_Record_hear (ca : CA) : DSt :=
  (sSeq (sAsg (dLcF (iSq (dFld ca.Record "says" (dVar 0))) (gN 4) (dTest (dOp dNe (dOp dIx (dVar 4) (dC (.int 0))) (dVar 1))) (dVar 4) [4]) (gN 3))
  (sSeq (sFldD ca.Record "says" (dVar 0) (dCB dTupCP (dCons (dSortGF PyData.int (kI 0) (dOp dAddF (dVar 3) (dLstF (dCons (dTup (dCons (dVar 1) (dCons (dVar 2) dNil))) dNil)))) dNil)))
  (sDrop (dMeth ca.Record "grow" (sd_Record_grow ca) (dVar 0) dNil))))
abbrev N_Record_hear : List Str := ["self", "hand", "say", "rest", "row"]
def b_Record_rows (ca : CA) : DSt :=
  (sRet (dCall Pl.sd_rows_of (dCons (dFld ca.Record "plan" (dVar 0)) (dCons (dFld ca.Record "ones" (dVar 0)) dNil))))
abbrev N_Record_rows : List Str := ["self"]
def b_Record_told (ca : CA) : DSt :=
  (sSeq (sAsg (dLst dNil) (gN 5))
  (sSeq (sFor (iSq (dFld ca.Record "guests" (dVar 0))) (gT 2 (gsCons (gN 6) (gsCons (gN 7) gsNil))) (sSeq (sAsg (dIf (dTest (dOp dEq (dVar 6) (dVar 3))) (dVar 4) (dMeth ca.Record "say_of" (sd_Record_say_of ca) (dVar 0) (dCons (dVar 6) dNil))) (gN 8))
  (sDrop (dBM "list" mAppend (dVar 5) (dCons (dTup (dCons (dVar 6) (dCons (dVar 7) (dCons (dCall sd_words_of (dCons (dVar 8) (dCons (dFld ca.Record "version" (dVar 0)) (dCons (dFld ca.Record "ones" (dVar 0)) (dCons (dOp dIx (dFld ca.Record "plan" (dVar 0)) (dC (.int 3))) dNil))))) dNil)))) dNil)))))
  (sFz 5 (sRet (dTup (dCons (dVar 1) (dCons (dVar 2) (dCons (dFld ca.Record "version" (dVar 0)) (dCons (dFld ca.Record "note" (dVar 0)) (dCons (dOp dIx (dFld ca.Record "plan" (dVar 0)) (dC (.int 1))) (dCons (dMeth ca.Record "rows" (sd_Record_rows ca) (dVar 0) dNil) (dCons (dVar 5) dNil))))))))))))
abbrev N_Record_told : List Str := ["self", "host", "number", "me", "mine", "guests", "hand", "by", "say"]
def b_first_record (ca : CA) : DSt :=
  (sRet (dMake ca.Record (sd_Record__init_ ca) (dCons (dTup (dCons (dC (.int 1)) (dCons (dC (.int 1)) (dCons (dC (.bl false)) (dCons (dVar 0) (dCons (dC (.str "")) (dCons (dTup dNil) (dCons (dCB dTupC (dCons (dLcF (iSq (dCB dSortedF (dCons (dVar 1) dNil))) (gN 2) dYes (dTup (dCons (dVar 2) (dCons (dC .non) dNil))) [2]) dNil)) (dCons (dTupP dNil) dNil))))))))) dNil)))
abbrev N_first_record : List Str := ["plan", "guests", "hand"]
end Hd
/-! ### hands: the records' defs by their readings -/
namespace Hd
open PySem PySem.Spec PyProof.Rows L2 Cc Pl
open PySem.W (EachIs AllAlike Sortable dataLe)
section
variable (r : Rec)
theorem lk_stamp : List.lookup ("stamp" : Str) r.fs = some (.int r.stamp) := rfl
theorem lk_version : List.lookup ("version" : Str) r.fs = some (.int r.version) := rfl
theorem lk_over : List.lookup ("over" : Str) r.fs = some (.bl r.over) := rfl
theorem lk_plan : List.lookup ("plan" : Str) r.fs = some r.plan.d := rfl
theorem lk_note : List.lookup ("note" : Str) r.fs = some (.str r.note) := rfl
theorem lk_ones : List.lookup ("ones" : Str) r.fs = some (onesD r.ones) := rfl
theorem lk_guests : List.lookup ("guests" : Str) r.fs = some (.tup (r.guests.map guestD)) := rfl
theorem lk_says : List.lookup ("says" : Str) r.fs = some (.ptp (r.says.map hsayD)) := rfl
theorem lk_grow : List.lookup ("grow" : Str) r.fs = none := rfl
theorem lk_move : List.lookup ("move" : Str) r.fs = none := rfl
theorem lk_move_one : List.lookup ("move_one" : Str) r.fs = none := rfl
theorem lk_add : List.lookup ("add" : Str) r.fs = none := rfl
theorem lk_drop : List.lookup ("drop" : Str) r.fs = none := rfl
theorem lk_hear : List.lookup ("hear" : Str) r.fs = none := rfl
theorem lk_rows : List.lookup ("rows" : Str) r.fs = none := rfl
theorem lk_told : List.lookup ("told" : Str) r.fs = none := rfl
theorem lk_hands : List.lookup ("hands" : Str) r.fs = none := rfl
theorem lk_say_of : List.lookup ("say_of" : Str) r.fs = none := rfl
theorem lk_parts : List.lookup ("parts" : Str) r.fs = none := rfl
theorem fs_len : r.fs.length = 8 := rfl
theorem pf_stamp (i : Int) : putFD "stamp" (.int i) r.fs = Rec.fs { r with stamp := i } := rfl
theorem pf_version (i : Int) : putFD "version" (.int i) r.fs = Rec.fs { r with version := i } := rfl
theorem pf_over (b : Bool) : putFD "over" (.bl b) r.fs = Rec.fs { r with over := b } := rfl
theorem pf_plan (p : Plan) : putFD "plan" p.d r.fs = Rec.fs { r with plan := p } := rfl
theorem pf_note (z : Str) : putFD "note" (.str z) r.fs = Rec.fs { r with note := z } := rfl
theorem pf_ones (os : List One) : putFD "ones" (onesD os) r.fs = Rec.fs { r with ones := os } := rfl
theorem pf_guests (gs : List Guest) : putFD "guests" (.tup (gs.map guestD)) r.fs = Rec.fs { r with guests := gs } := rfl
theorem pf_says (ss : List HSay) : putFD "says" (.ptp (ss.map hsayD)) r.fs = Rec.fs { r with says := ss } := rfl
end
theorem pf_ones0 (r : Rec) : putFD "ones" (.tup []) r.fs = Rec.fs { r with ones := [] } := rfl
theorem vsl_plan {p : Plan} {G : DH} {R : DK} : sSlF p.d (some 1) none G R = R (.tup [.int p.l, .int p.e, .int p.m]) G := rfl
theorem pf_plan2 (r : Rec) (b l e m : Int) : putFD "plan" (.tup ([.int b] ++ [.int l, .int e, .int m])) r.fs = Rec.fs { r with plan := ⟨b, l, e, m⟩ } := rfl
theorem vix_plan1 {p : Plan} {G : DH} {R : DK} : dIx p.d (.int 1) G R = R (.int p.l) G := rfl
theorem vix_plan3 {p : Plan} {G : DH} {R : DK} : dIx p.d (.int 3) G R = R (.int p.m) G := rfl
theorem lt8 : (8 : Nat) < 1000 := by decide
end Hd
local macro_rules | `(tactic| walk_at "hd") => `(tactic| try simp only [Cc.sSeq, Cc.sIf, Cc.sAsg, Cc.sRet, Cc.sRetN, Cc.sDrop, Cc.sNext, Cc.gN, Cc.gT, Cc.gsCons, Cc.gsNil, Cc.gsNames, Cc.wipeD, Cc.D.tl, Cc.dTest, Cc.dAnd, Cc.dOr, Cc.dNot, Cc.dAndV, Cc.dOrV, Cc.dNotV, Cc.dIf, Cc.dOp, Cc.dUn, Cc.dVar, Cc.dC, Cc.dCons, Cc.dNil, Cc.dCB, Cc.dCall, Cc.dTup, Cc.dLst, Cc.dLstF, Cc.dYes, Cc.blD_bl, Cc.dEq_int, Cc.dNe_int, Cc.dEq_bl, Cc.dNe_bl, Cc.dEq_str, Cc.dChain, Cc.vadd_int, Cc.vadd_rol, Cc.vadd_tup, Cc.vmul_int, Cc.vsub_int, Cc.vlt_int, Cc.vle_int, Cc.vgt_int, Cc.vge_int, Cc.vmax_int, Cc.vmin_int, Cc.vneg_int, Cc.vlen_tup, Cc.vlen_rol, Cc.vtup_rol, Cc.vtup_tup, Cc.vlist_rol, Cc.vlist_tup, Cc.vix_tup, Cc.vix_rol, Cc.vat_0, Cc.vat_1, Cc.vat_2, Cc.vat_3, Cc.vat_4, Cc.vat_5, Cc.vat_6, Cc.vsl_tup, Cc.vsl_rol, Cc.visi_non_bool, Cc.visi_non_int, Cc.visi_non_str, Cc.visi_non_tuple, Cc.visi_non_list, Cc.visi_bl_bool, Cc.visi_bl_int, Cc.visi_bl_str, Cc.visi_bl_tuple, Cc.visi_bl_list, Cc.visi_int_bool, Cc.visi_int_int, Cc.visi_int_str, Cc.visi_int_tuple, Cc.visi_int_list, Cc.visi_str_bool, Cc.visi_str_int, Cc.visi_str_str, Cc.visi_str_tuple, Cc.visi_str_list, Cc.visi_tup_bool, Cc.visi_tup_int, Cc.visi_tup_str, Cc.visi_tup_tuple, Cc.visi_tup_list, Cc.visi_key_bool, Cc.visi_key_int, Cc.visi_key_str, Cc.visi_key_tuple, Cc.visi_key_list, Cc.visi_rol_bool, Cc.visi_rol_int, Cc.visi_rol_str, Cc.visi_rol_tuple, Cc.visi_rol_list, Cc.dBM, Cc.vtyL, Cc.vapp, Cc.vlen_upd, Cc.vix_upd, Cc.vsz_0, Cc.vsz_1, Cc.vsz_2, Cc.vsz_3, Cc.vsz_4, Cc.vsz_5, Cc.vsz_6, Cc.vsz_7, Cc.vsz_8, Cc.vsz_9, Cc.dIsN, Cc.dNotN, Cc.D.isN, List.getElem?_cons_zero, List.getElem?_cons_succ, List.set_cons_zero, List.set_cons_succ, List.length_cons, List.length_nil, decide_eq_true_eq, if_true, if_false, Bool.false_eq_true, ite_true, ite_false, true_and, and_true, Bool.not_true, Bool.not_false, Cc.dFld, Cc.sFldD, Cc.gF, Cc.dMeth, Cc.dMake, Cc.dTupP, Cc.dSl, Cc.oSome, Cc.oNo, Cc.updD_same, Cc.updD_updD, Hd.lk_stamp, Hd.lk_version, Hd.lk_over, Hd.lk_plan, Hd.lk_note, Hd.lk_ones, Hd.lk_guests, Hd.lk_says, Hd.lk_grow, Hd.lk_move, Hd.lk_move_one, Hd.lk_add, Hd.lk_drop, Hd.lk_hear, Hd.lk_rows, Hd.lk_told, Hd.lk_hands, Hd.lk_say_of, Hd.lk_parts, Hd.pf_stamp, Hd.pf_version, Hd.pf_over, Hd.pf_plan, Hd.pf_note, Hd.pf_ones, Hd.pf_ones0, Hd.pf_guests, Hd.pf_says, Hd.fs_len, Hd.lt8, Hd.vsl_plan, Hd.pf_plan2, Hd.vix_plan1, Hd.vix_plan3])
namespace Hd
open PySem PySem.Spec PyProof.Rows L2 Cc Pl
open PySem.W (EachIs AllAlike Sortable dataLe)
theorem fm_filter {α : Type} {f : α → D} (p : α → Bool) : ∀ l : List α, (l.filterMap fun x => if p x = true then some (f x) else none) = (l.filter p).map f
  | [] => rfl
  | x :: l => by
    rw [List.filterMap_cons, List.filter_cons, fm_filter p l]
    cases p x <;> rfl
theorem pure_Record__init_ (ca : CA) (ds : List D) (G : DH) (R : DK) (EX : DX) (h : sd_Record__init_ ca ds G R EX) : b_Record__init_ ca (endsD (frg R) EX) (startD N_Record__init_ ds) G := by
  obtain ⟨a, r, rfl, h, q⟩ := h
  show b_Record__init_ ca (endsD (frg R) EX) [some (.ref a), some r.d] G
  unfold b_Record__init_ Rec.d Rec.ds
  walk_at "rd"
  simp only [gF, dVar, List.getElem?_cons_zero, List.getElem?_cons_succ, h, updD_same, updD_updD, true_and]
  refine ⟨(by decide : (0 : Nat) < 1000), (by decide : (1 : Nat) < 1000), (by decide : (2 : Nat) < 1000), (by decide : (3 : Nat) < 1000), (by decide : (4 : Nat) < 1000), (by decide : (5 : Nat) < 1000), (by decide : (6 : Nat) < 1000), (by decide : (7 : Nat) < 1000), ?_⟩
  exact frg_of q
theorem pure_Record_parts (ca : CA) (ds : List D) (G : DH) (R : DK) (EX : DX) (h : sd_Record_parts ca ds G R EX) : b_Record_parts ca (endsD (frg R) EX) (startD N_Record_parts ds) G := by
  obtain ⟨a, r, rfl, h, q⟩ := h
  show b_Record_parts ca (endsD (frg R) EX) [some (.ref a)] G
  unfold RecAt at h
  unfold b_Record_parts
  rw [← updD_id h] at q ⊢
  walk_at "hd"
  exact frg_of q
theorem pure_Record_grow (ca : CA) (ds : List D) (G : DH) (R : DK) (EX : DX) (h : sd_Record_grow ca ds G R EX) : b_Record_grow ca (endsD (frg R) EX) (startD N_Record_grow ds) G := by
  obtain ⟨a, r, rfl, h, q⟩ := h
  show b_Record_grow ca (endsD (frg R) EX) [some (.ref a)] G
  unfold RecAt at h
  unfold b_Record_grow
  unfold putR at q
  rw [← updD_id h] at q ⊢
  rw [updD_updD] at q
  walk_at "hd"
  exact frg_of q
theorem pure_Record_move (ca : CA) (ds : List D) (G : DH) (R : DK) (EX : DX) (h : sd_Record_move ca ds G R EX) : b_Record_move ca (endsD (frg R) EX) (startD N_Record_move ds) G := by
  obtain ⟨a, r, b, rfl, h, q⟩ := h
  show b_Record_move ca (endsD (frg R) EX) [some (.ref a), some (.int b)] G
  unfold RecAt at h
  unfold b_Record_move
  unfold putR at q
  rw [← updD_id h] at q ⊢
  rw [updD_updD] at q
  walk_at "hd"
  refine ⟨a, _, rfl, updD_same, ?_⟩
  unfold putR
  rw [updD_updD]
  exact frg_of q
theorem pure_Record_move_one (ca : CA) (ds : List D) (G : DH) (R : DK) (EX : DX) (h : sd_Record_move_one ca ds G R EX) : b_Record_move_one ca (endsD (frg R) EX) (startD N_Record_move_one ds) G := by
  obtain ⟨a, r, k, b, rfl, h, ok, q⟩ := h
  show b_Record_move_one ca (endsD (frg R) EX) [some (.ref a), some (.int k), some (oD b)] G
  unfold RecAt at h
  unfold b_Record_move_one
  unfold putR at q
  rw [← updD_id h] at q ⊢
  rw [updD_updD] at q
  walk_at "hd"
  refine ⟨r.ones, k, b, rfl, by have := ok.ones; omega, ?_⟩
  walk_at "hd"
  refine ⟨a, _, rfl, updD_same, ?_⟩
  unfold putR
  rw [updD_updD]
  exact frg_of q
theorem pure_Record_hands (ca : CA) (ds : List D) (G : DH) (R : DK) (EX : DX) (h : sd_Record_hands ca ds G R EX) : b_Record_hands ca (endsD (frg R) EX) (startD N_Record_hands ds) G := by
  obtain ⟨a, r, rfl, h, ok, q⟩ := h
  show b_Record_hands ca (endsD (frg R) EX) [some (.ref a), none, none] G
  unfold RecAt at h
  unfold b_Record_hands
  rw [← updD_id h] at q ⊢
  walk_at "hd"
  simp only [dLcF, iSq]
  walk_at "hd"
  refine goLcF_map (f := guestD) (fun g : Guest => some (.int g.1)) trivial (fun g C1 C2 hg => ?_) r.guests [] (by have := ok.guests; simp; exact sz_small (by omega)) ?_
  · unfold guestD
    walk_at "hd"
    exact hg
  · rw [List.filterMap_eq_map', List.nil_append]
    unfold Rec.hands at q
    rw [List.map_map] at q
    exact frg_of q
theorem pure_Record_rows (ca : CA) (ds : List D) (G : DH) (R : DK) (EX : DX) (h : sd_Record_rows ca ds G R EX) : b_Record_rows ca (endsD (frg R) EX) (startD N_Record_rows ds) G := by
  obtain ⟨a, r, rfl, h, ok, q⟩ := h
  show b_Record_rows ca (endsD (frg R) EX) [some (.ref a)] G
  unfold RecAt at h
  unfold b_Record_rows
  rw [← updD_id h] at q ⊢
  walk_at "hd"
  have m0 := ok.plan.m0
  have m1 := ok.plan.m1
  exact ⟨r.plan, r.ones, rfl, by omega, by omega, frg_of q⟩
theorem pure_Record_drop (ca : CA) (ds : List D) (G : DH) (R : DK) (EX : DX) (h : sd_Record_drop ca ds G R EX) : b_Record_drop ca (endsD (frg R) EX) (startD N_Record_drop ds) G := by
  obtain ⟨a, r, hd, rfl, h, ok, q⟩ := h
  show b_Record_drop ca (endsD (frg R) EX) [some (.ref a), some (.int hd), none] G
  unfold RecAt at h
  unfold b_Record_drop
  unfold putR at q
  rw [← updD_id h] at q ⊢
  rw [updD_updD] at q
  walk_at "hd"
  simp only [dLcF, iSq]
  walk_at "hd"
  refine goLcF_map (f := guestD) (fun g : Guest => if (!decide (g.1 = hd)) = true then some (guestD g) else none) trivial (fun g C1 C2 hg => ?_) r.guests [] (by have := ok.guests; simp; exact sz_small (by omega)) ?_
  · unfold guestD at hg ⊢
    walk_at "hd"
    cases hb : (!decide (g.1 = hd)) <;> rw [hb] at hg <;> exact hg
  · rw [fm_filter, List.nil_append]
    walk_at "hd"
    try simp only [dLcF, iSq]
    walk_at "hd"
    refine goLcF_map (f := hsayD) (fun g : HSay => if (!decide (g.1 = hd)) = true then some (hsayD g) else none) trivial (fun g C1 C2 hg => ?_) r.says [] (by have := ok.says; simp; exact sz_small (by omega)) ?_
    · unfold hsayD at hg ⊢
      walk_at "hd"
      cases hb : (!decide (g.1 = hd)) <;> rw [hb] at hg <;> exact hg
    · rw [fm_filter, List.nil_append]
      simp only [dTupCP]
      walk_at "hd"
      refine ⟨a, _, rfl, updD_same, ?_⟩
      unfold putR
      rw [updD_updD]
      exact frg_of q
end Hd
/-! ### hands: what is said, by its readings -/
namespace Hd
open PySem PySem.Spec PyProof.Rows L2 Cc Pl
open PySem.W (EachIs AllAlike Sortable dataLe)
theorem putD_new {κ : Type} [DecidableEq κ] {kvs : List (κ × D)} {k : κ} {v : D} (h : k ∉ kvs.map (·.1)) : putD kvs k v = kvs ++ [(k, v)] := by
  unfold putD
  rw [if_neg]
  intro e
  obtain ⟨p, hp, hk⟩ := List.any_eq_true.mp e
  exact h (List.mem_map.mpr ⟨p, hp, by simpa using hk⟩)
theorem mergeD_app : ∀ (more kvs : List (Key × D)), ((kvs ++ more).map (·.1)).Nodup → mergeD kvs more = kvs ++ more
  | [], kvs, _ => by rw [List.append_nil]; rfl
  | p :: more, kvs, h => by
    have h2 : kvs ++ p :: more = (kvs ++ [p]) ++ more := by simp
    have hn : p.1 ∉ kvs.map (·.1) := fun z => by
      rw [List.map_append, List.nodup_append] at h
      exact h.2.2 _ z _ (by simp) rfl
    show mergeD (putD kvs p.1 p.2) more = _
    rw [putD_new hn, h2]
    exact mergeD_app more _ (by rw [← h2]; exact h)
theorem look_map {α : Type} {f : α → D} (k : Int) : ∀ l : List (Int × α), lookK (l.map fun p => ((Sum.inl p.1 : Key), f p.2)) (Sum.inl k) = (l.find? fun p => decide (p.1 = k)).map fun p => f p.2
  | [] => rfl
  | p :: l => by
    have ih := look_map (f := f) k l
    unfold lookK at ih ⊢
    rw [List.map_cons, List.find?_cons, List.find?_cons]
    by_cases h : p.1 = k
    · subst h
      simp
    · have : ¬ (Sum.inl p.1 : Key) = Sum.inl k := fun z => h (Sum.inl.inj z)
      rw [decide_eq_false this, decide_eq_false h]
      exact ih
theorem nd_keys {α : Type} {f : α → D} {l : List (Int × α)} (h : (l.map (·.1)).Nodup) : ((l.map fun p => ((Sum.inl p.1 : Key), f p.2)).map (·.1)).Nodup := by
  rw [List.map_map]
  have : ((fun x : Key × D => x.1) ∘ fun p : Int × α => ((Sum.inl p.1 : Key), f p.2)) = Sum.inl ∘ fun p : Int × α => p.1 := rfl
  rw [this, ← List.map_map]
  exact List.Pairwise.map _ (fun a b hab z => hab (Sum.inl.inj z)) h
/-- dict(pairs).get(k, z) -/
theorem dict_get {α : Type} {f : α → D} {l : List (Int × α)} {g : Int × α → D} {G : DH} {R : DK} {k : Int} {z : D} (hg : ∀ p ∈ l, keyed (g p) = some (Sum.inl p.1, f p.2)) (h : (l.map (·.1)).Nodup)
    (q : R (((l.find? fun p => decide (p.1 = k)).map fun p => f p.2).getD z) G) : dDictF [.ptp (l.map g)] G fun x G1 => isDict G1 x ∧ (match getOf G1 x (.int k) with
  | some r => R (r.getD z) G1
  | none => False) := by
  refine ⟨l.map g, l.map fun p => (Sum.inl p.1, f p.2), rfl, ?_, trivial, ?_⟩
  · rw [List.map_map, List.map_map]
    exact List.map_congr_left fun p hp => hg p hp
  · have e := mergeD_app (l.map fun p => ((Sum.inl p.1 : Key), f p.2)) [] (by rw [List.nil_append]; exact nd_keys h)
    rw [e, List.nil_append]
    simp only [getOf, D.ky, Option.map_some]
    rw [look_map]
    exact q
theorem pure_Record_say_of (ca : CA) (ds : List D) (G : DH) (R : DK) (EX : DX) (h : sd_Record_say_of ca ds G R EX) : b_Record_say_of ca (endsD (frg R) EX) (startD N_Record_say_of ds) G := by
  obtain ⟨a, r, hd, rfl, h, ok, q⟩ := h
  show b_Record_say_of ca (endsD (frg R) EX) [some (.ref a), some (.int hd)] G
  unfold RecAt at h
  unfold b_Record_say_of
  rw [← updD_id h] at q ⊢
  walk_at "hd"
  simp only [dGet2]
  walk_at "hd"
  refine dict_get (l := r.says) (f := Say.d) (fun p _ => rfl) ok.nd ?_
  have e : ((r.says.find? fun p => decide (p.1 = hd)).map fun p => p.2.d).getD (.tup [.int 0, .non, .tup [], .non]) = (r.sayOf hd).d := by
    unfold Rec.sayOf
    cases r.says.find? fun p => decide (p.1 = hd) with
    | none => rfl
    | some p => rfl
  rw [e]
  exact frg_of q
theorem pure_oftens_of (ds : List D) (G : DH) (R : DK) (EX : DX) (h : sd_oftens_of ds G R EX) : b_oftens_of (endsD (frg R) EX) (startD N_oftens_of ds) G := by
  obtain ⟨os, rfl, hl, q⟩ := h
  show b_oftens_of (endsD (frg R) EX) [some (onesD os), none, none, none] G
  unfold b_oftens_of onesD
  walk_at "hd"
  simp only [dLcF, iSq]
  walk_at "hd"
  refine goLcF_map (f := One.d) (fun o : One => some (oft (o.k, o.n))) trivial (fun o C1 C2 ho => ?_) os [] (by simp; exact sz_small (by omega)) ?_
  · unfold One.d
    walk_at "hd"
    exact ho
  · rw [List.filterMap_eq_map', List.nil_append]
    simp only [dTupCP]
    exact frg_of q
theorem pure_words_of (ds : List D) (G : DH) (R : DK) (EX : DX) (h : sd_words_of ds G R EX) : b_words_of (endsD (frg R) EX) (startD N_words_of ds) G := by
  obtain ⟨s, v, os, m, rfl, ok, m0, m1, q⟩ := h
  show b_words_of (endsD (frg R) EX) [some s.d, some (.int v), some (onesD os), some (.int m), none] G
  unfold b_words_of
  walk_at "hd"
  simp only [dLcF, iRange1]
  walk_at "hd"
  refine ⟨⟨by omega, by omega⟩, ?_⟩
  rw [rangeD_map]
  refine goLcF_map (f := fun i : Nat => D.int (i : Int)) (fun k : Nat => some (.str (wordOf s v os k))) trivial (fun k C1 C2 hk => ?_) (List.range m.toNat) [] (by rw [List.length_range, List.length_nil, Nat.zero_add]; exact sz_small (by omega)) ?_
  · walk_at "hd"
    exact ⟨s, v, os, k, rfl, ok, hk⟩
  · rw [List.filterMap_eq_map', List.nil_append]
    unfold wordsOf at q
    rw [List.map_map] at q
    exact frg_of q
def soneP (q : SOne) : PyData := .tuple [.int q.1, .int q.2.1, .int q.2.2.1]
theorem eqv3 {a b c a' b' c' : Int} : PyData.eqv (.tuple [.int a, .int b, .int c]) (.tuple [.int a', .int b', .int c']) = decide ((a, b, c) = (a', b', c')) := by
  simp only [PyData.eqv, PyData.eqvAll, Bool.and_true, Prod.mk.injEq]
  rw [Bool.eq_iff_iff]
  simp
theorem pure_word_of (ds : List D) (G : DH) (R : DK) (EX : DX) (h : sd_word_of ds G R EX) : b_word_of (endsD (frg R) EX) (startD N_word_of ds) G := by
  obtain ⟨s, v, os, k, rfl, ok, q⟩ := h
  have q := frg_of q
  show b_word_of (endsD (frg R) EX) [some s.d, some (.int v), some (onesD os), some (.int k), none, none, none, none, none] G
  unfold b_word_of Say.d
  walk_at "hd"
  unfold wordOf at q
  cases hp : s.pass with
  | some p =>
    rw [hp] at q
    simp only [oD]
    walk_at "hd"
    exact q
  | none =>
    rw [hp] at q
    simp only [oD]
    walk_at "hd"
    refine ⟨os, k, rfl, ?_⟩
    walk_at "hd"
    simp only [sFor, iSq]
    walk_at "hd"
    refine goFor_map (f := soneD) (fun xs δ G' => (∃ o5 o6 o7 o8 : Option D, δ = [some (.tup [.int s.n, wholeD s.whole, .tup (s.ones.map soneD), oD s.pass]), some (.int v), some (onesD os), some (.int k), some (.int (chg os k).1), o5, o6, o7, o8]) ∧ G' = G ∧ s.ones.find? (fun q => decide ((q.1, q.2.1, q.2.2.1) = (k, v, (chg os k).1))) = xs.find? (fun q => decide ((q.1, q.2.1, q.2.2.1) = (k, v, (chg os k).1))))
      (fun _ _ _ _ => trivial) (fun δ G' ⟨⟨o5, o6, o7, o8, e⟩, eG, ef⟩ => ?_) (fun x xs δ G' N ⟨⟨o5, o6, o7, o8, e⟩, eG, ef⟩ hN => ?_) _ _ _ ⟨⟨_, _, _, _, by rw [hp]; rfl⟩, rfl, rfl⟩
    · subst e eG
      rw [ef] at q
      simp only [List.find?_nil] at q
      walk_at "hd"
      cases hw : s.whole with
      | none =>
        rw [hw] at q
        simp only [wholeD]
        walk_at "hd"
        exact q
      | some t =>
        obtain ⟨v', of, w⟩ := t
        rw [hw] at q
        obtain ⟨hnd, hle⟩ := ok.oft _ _ _ hw
        simp only [wholeD]
        walk_at "hd"
        dsimp only at q
        by_cases h1 : v' = v
        · rw [if_pos h1]
          simp only [dGet2]
          walk_at "hd"
          refine dict_get (R := fun x G1 => dEq x (.int (chg os k).1) G1 (blD fun b G1 => if b = true then frg R (.str w) G1 else frg R (.str "asked") G1)) (l := of) (f := D.int) (g := oft) (fun p _ => rfl) hnd ?_
          have e : (((of.find? fun p => decide (p.1 = k)).map fun p => D.int p.2).getD (.int 0)) = .int (((of.find? fun p => decide (p.1 = k)).map (·.2)).getD 0) := by
            cases of.find? fun p => decide (p.1 = k) <;> rfl
          rw [e]
          walk_at "hd"
          by_cases h2 : (((of.find? fun p => decide (p.1 = k)).map (·.2)).getD 0) = (chg os k).1
          · rw [if_pos h2]
            rw [if_pos ⟨h1, h2⟩] at q
            walk_at "hd"
            exact q
          · rw [if_neg h2]
            rw [if_neg fun z => h2 z.2] at q
            walk_at "hd"
            exact q
        · rw [if_neg h1]
          rw [if_neg fun z => h1 z.1] at q
          walk_at "hd"
          exact q
    · subst e eG
      unfold soneD
      walk_at "hd"
      refine ⟨.tuple [.int x.1, .int x.2.1, .int x.2.2.1], .tuple [.int k, .int v, .int (chg os k).1], .tup rfl (.cons (.int _) (.cons (.int _) (.cons (.int _) .nil))), .tup rfl (.cons (.int _) (.cons (.int _) (.cons (.int _) .nil))), by simp [SeqAt.shaped, PyData.canLay0, PyData.canLayAll0, PyData.depth, PyData.depthAll], by simp [SeqAt.shaped, PyData.canLay0, PyData.canLayAll0, PyData.depth, PyData.depthAll], ?_⟩
      rw [eqv3]
      rw [List.find?_cons] at ef
      cases hb : decide ((x.1, x.2.1, x.2.2.1) = (k, v, (chg os k).1)) with
      | true =>
        rw [hb] at ef
        rw [ef] at q
        walk_at "hd"
        exact q
      | false =>
        rw [hb] at ef
        walk_at "hd"
        exact hN _ _ ⟨⟨_, _, _, _, rfl⟩, rfl, ef⟩
end Hd
/-! ### hands: hearing, telling -/
namespace Hd
open PySem PySem.Spec PyProof.Rows L2 Cc Pl
open PySem.W (EachIs AllAlike Sortable dataLe)
theorem key_eq {α : Type} {f : Int × α → D} (hf : ∀ p, kI 0 (f p) = some p.1) (l : List (Int × α)) : (l.map f).map (kI 0) = (l.map (·.1)).map some := by
  rw [List.map_map, List.map_map]
  exact List.map_congr_left fun p _ => hf p
theorem sort_eq {α : Type} {f : Int × α → D} (l : List (Int × α)) : sortG PyData.int (l.map f) (l.map (·.1)) = (byH l).map f := sortG_map l
theorem pure_Record_hear (ca : CA) (ds : List D) (G : DH) (R : DK) (EX : DX) (h : sd_Record_hear ca ds G R EX) : b_Record_hear ca (endsD (frg R) EX) (startD N_Record_hear ds) G := by
  obtain ⟨a, r, hd, s, rfl, h, hl, q⟩ := h
  show b_Record_hear ca (endsD (frg R) EX) [some (.ref a), some (.int hd), some s.d, none, none] G
  unfold RecAt at h
  unfold b_Record_hear
  unfold putR at q
  rw [← updD_id h] at q ⊢
  rw [updD_updD] at q
  walk_at "hd"
  simp only [dLcF, iSq]
  walk_at "hd"
  refine goLcF_map (f := hsayD) (fun g : HSay => if (!decide (g.1 = hd)) = true then some (hsayD g) else none) trivial (fun g C1 C2 hg => ?_) r.says [] (by simp; exact sz_small (by omega)) ?_
  · unfold hsayD at hg ⊢
    walk_at "hd"
    cases hb : (!decide (g.1 = hd)) <;> rw [hb] at hg <;> exact hg
  · rw [fm_filter, List.nil_append]
    walk_at "hd"
    have hf := List.length_filter_le (fun x : HSay => !decide (x.1 = hd)) r.says
    have e2 : ((r.says.filter fun x : HSay => !decide (x.1 = hd)).map hsayD ++ [D.tup [.int hd, s.d]]) = ((r.says.filter fun x : HSay => !decide (x.1 = hd)) ++ [((hd, s) : HSay)]).map hsayD := by
      rw [List.map_append]; rfl
    simp only [dSortGF]
    walk_at "hd"
    refine ⟨by rw [List.length_map]; exact sz_small (by omega), ?_⟩
    rw [e2]
    have hlen : ((r.says.filter fun x : HSay => !decide (x.1 = hd)) ++ [((hd, s) : HSay)]).length ≤ 100000 := by rw [List.length_append, List.length_singleton]; omega
    refine ⟨_, ((r.says.filter fun x : HSay => !decide (x.1 = hd)) ++ [((hd, s) : HSay)]).map (·.1), rfl, key_eq (fun p => rfl) _, by rw [List.length_map]; exact sz_small hlen, ?_⟩
    rw [sort_eq]
    simp only [dTupCP]
    walk_at "hd"
    refine ⟨a, _, rfl, updD_same, ?_⟩
    unfold putR
    rw [updD_updD]
    exact frg_of q
theorem pure_Record_add (ca : CA) (ds : List D) (G : DH) (R : DK) (EX : DX) (h : sd_Record_add ca ds G R EX) : b_Record_add ca (endsD (frg R) EX) (startD N_Record_add ds) G := by
  obtain ⟨a, r, hd, b, s, rfl, h, hg, hl, q⟩ := h
  show b_Record_add ca (endsD (frg R) EX) [some (.ref a), some (.int hd), some (oD b), some s.d] G
  unfold RecAt at h
  unfold b_Record_add
  unfold putR at q
  rw [← updD_id h] at q ⊢
  rw [updD_updD] at q
  walk_at "hd"
  simp only [dSortGF]
  walk_at "hd"
  have e2 : (r.guests.map guestD ++ [D.tup [.int hd, oD b]]) = (r.guests ++ [((hd, b) : Guest)]).map guestD := by
    rw [List.map_append]; rfl
  refine ⟨by rw [List.length_map]; exact sz_small (by omega), ?_⟩
  rw [e2]
  have hlen : (r.guests ++ [((hd, b) : Guest)]).length ≤ 100000 := by rw [List.length_append, List.length_singleton]; omega
  refine ⟨_, (r.guests ++ [((hd, b) : Guest)]).map (·.1), rfl, key_eq (fun p => rfl) _, by rw [List.length_map]; exact sz_small hlen, ?_⟩
  rw [sort_eq]
  walk_at "hd"
  refine ⟨a, _, hd, s, rfl, updD_same, hl, ?_⟩
  unfold putR
  rw [updD_updD]
  exact frg_of q
theorem sort_ints {l : List Int} {G : DH} {R : DK} (hl : l.length ≤ 100000) (q : R (.rol ((sortI l).map .int)) G) : dSortedF [.tup (l.map .int)] G R := by
  refine ⟨l.map .int, l.map PyData.int, rfl, rdd_map fun x _ => .int x, ?_, ?_, fun t ht => ?_, by rw [List.length_map]; exact sz_small hl, ?_⟩
  · exact AllAlike.of fun x y => encI_alike x y
  · exact Sortable.others fun b => ⟨(fun z => by cases z), (fun xs z => by cases z)⟩
  · obtain ⟨x, _, rfl⟩ := List.mem_map.mp ht
    simp [PyData.depth]
  · rw [sortD_map]
    have e : l.mergeSort (dataLe false PyData.int) = sortI l := by
      unfold sortI
      rw [PySem.W.dataLe_int]
    rw [e]
    exact q
theorem pure_first_record (ca : CA) (ds : List D) (G : DH) (R : DK) (EX : DX) (h : sd_first_record ca ds G R EX) : b_first_record ca (endsD (frg R) EX) (startD N_first_record ds) G := by
  obtain ⟨p, gs, rfl, hl, q⟩ := h
  show b_first_record ca (endsD (frg R) EX) [some p.d, some (.tup (gs.map .int)), none] G
  unfold b_first_record
  walk_at "hd"
  simp only [dLcF, iSq]
  walk_at "hd"
  refine sort_ints (by omega) ?_
  have hs : (sortI gs).length = gs.length := List.length_mergeSort _
  refine goLcF_map (f := D.int) (fun g : Int => some (guestD (g, none))) trivial (fun g C1 C2 hg => ?_) (sortI gs) [] (by simp; exact sz_small (by omega)) ?_
  · walk_at "hd"
    exact hg
  · rw [List.filterMap_eq_map', List.nil_append]
    walk_at "hd"
    intro x hx
    refine ⟨x, first p gs, ?_, updD_same, ?_⟩
    · unfold Rec.d Rec.ds first
      rw [List.map_map]
      rfl
    · unfold putR
      rw [updD_updD]
      exact frg_of (q x hx)
theorem veq_oD {i : Int} {o : Option Int} {G : DH} {R : DK} (q : R (.bl (decide (some i = o))) G) : dEq (.int i) (oD o) G R := by
  cases o with
  | none => exact ⟨.int i, .none, .int _, .non, by simp [SeqAt.shaped, PyData.canLay0, PyData.depth], by simp [SeqAt.shaped, PyData.canLay0, PyData.depth], q⟩
  | some j =>
    have e : decide (some i = some j) = decide (i = j) := by simp
    rw [e] at q
    exact q
theorem toldG_snoc {r : Rec} {me : Option Int} {mine : Say} (pre : List Guest) (g : Guest) : ((pre ++ [g]).map fun g : Guest => (⟨g.1, g.2, wordsOf (if some g.1 = me then mine else r.sayOf g.1) r.version r.ones r.plan.m⟩ : ToldG)).map ToldG.d =
    (pre.map fun g : Guest => (⟨g.1, g.2, wordsOf (if some g.1 = me then mine else r.sayOf g.1) r.version r.ones r.plan.m⟩ : ToldG)).map ToldG.d ++ [.tup [.int g.1, oD g.2, .rol ((wordsOf (if some g.1 = me then mine else r.sayOf g.1) r.version r.ones r.plan.m).map .str)]] := by
  rw [List.map_append, List.map_append]
  rfl
theorem sayOf_ok {r : Rec} (ok : r.Ok) (h : Int) : (r.sayOf h).Ok := by
  unfold Rec.sayOf
  cases hf : r.says.find? fun s => decide (s.1 = h) with
  | none => exact ⟨(fun v os w e => by cases e), Nat.zero_le _⟩
  | some s => exact ok.say s (List.mem_of_find?_eq_some hf)
def tellS (ca : CA) : DSt := (sDrop (dBM "list" mAppend (dVar 5) (dCons (dTup (dCons (dVar 6) (dCons (dVar 7) (dCons (dCall sd_words_of (dCons (dVar 8) (dCons (dFld ca.Record "version" (dVar 0)) (dCons (dFld ca.Record "ones" (dVar 0)) (dCons (dOp dIx (dFld ca.Record "plan" (dVar 0)) (dC (.int 3))) dNil))))) dNil)))) dNil)))
theorem told_eq (ca : CA) : b_Record_told ca = (sSeq (sAsg (dLst dNil) (gN 5))
  (sSeq (sFor (iSq (dFld ca.Record "guests" (dVar 0))) (gT 2 (gsCons (gN 6) (gsCons (gN 7) gsNil))) (sSeq (sAsg (dIf (dTest (dOp dEq (dVar 6) (dVar 3))) (dVar 4) (dMeth ca.Record "say_of" (sd_Record_say_of ca) (dVar 0) (dCons (dVar 6) dNil))) (gN 8))
  (tellS ca)))
  (sFz 5 (sRet (dTup (dCons (dVar 1) (dCons (dVar 2) (dCons (dFld ca.Record "version" (dVar 0)) (dCons (dFld ca.Record "note" (dVar 0)) (dCons (dOp dIx (dFld ca.Record "plan" (dVar 0)) (dC (.int 1))) (dCons (dMeth ca.Record "rows" (sd_Record_rows ca) (dVar 0) dNil) (dCons (dVar 5) dNil)))))))))))) := rfl
theorem pure_Record_told (ca : CA) (ds : List D) (G : DH) (R : DK) (EX : DX) (h : sd_Record_told ca ds G R EX) : b_Record_told ca (endsD (frg R) EX) (startD N_Record_told ds) G := by
  obtain ⟨a, r, host, number, me, mine, rfl, h, ok, okm, q⟩ := h
  show b_Record_told ca (endsD (frg R) EX) [some (.ref a), some (.int host), some (.int number), some (oD me), some mine.d, none, none, none, none] G
  unfold RecAt at h
  have m0 := ok.plan.m0
  have m1 := ok.plan.m1
  have hg := ok.guests
  rw [told_eq]
  walk_at "hd"
  intro p hp
  have nap : a ≠ p := fun z => by subst z; rw [h] at hp; cases hp
  have hga : ∀ c, updD G p c a = some (.ins ca.Record r.fs) := fun c => by rw [updD_ne nap]; exact h
  simp only [sFor, iSq]
  walk_at "hd"
  simp only [hga, true_and]
  walk_at "hd"
  refine goFor_map (f := guestD) (fun xs δ G' => (∃ o6 o7 o8 : Option D, δ = [some (.ref a), some (.int host), some (.int number), some (oD me), some mine.d, some (.ref p), o6, o7, o8]) ∧ ∃ pre, pre ++ xs = r.guests ∧ G' = updD G p (.lst ((pre.map fun g : Guest => (⟨g.1, g.2, wordsOf (if some g.1 = me then mine else r.sayOf g.1) r.version r.ones r.plan.m⟩ : ToldG)).map ToldG.d)))
    (fun _ _ _ _ => trivial) (fun δ G' ⟨⟨o6, o7, o8, e⟩, pre, ep, eG⟩ => ?_) (fun g xs δ G' N ⟨⟨o6, o7, o8, e⟩, pre, ep, eG⟩ hN => ?_) _ _ _ ⟨⟨_, _, _, rfl⟩, [], rfl, rfl⟩
  · subst e eG
    rw [List.append_nil] at ep
    subst ep
    dsimp only
    refine sFz_lst rfl updD_same ?_
    rw [delD_updD hp]
    rw [← updD_id h] at q ⊢
    walk_at "hd"
    refine ⟨a, r, rfl, updD_same, ok, ?_⟩
    exact frg_of q
  · subst e eG
    have hlen := congrArg List.length ep
    rw [List.length_append, List.length_cons] at hlen
    have nx : ∀ o8, N [some (.ref a), some (.int host), some (.int number), some (oD me), some mine.d, some (.ref p), some (.int g.1), some (oD g.2), o8] (updD G p (.lst (((pre ++ [g]).map fun g : Guest => (⟨g.1, g.2, wordsOf (if some g.1 = me then mine else r.sayOf g.1) r.version r.ones r.plan.m⟩ : ToldG)).map ToldG.d))) := fun o8 =>
      hN _ _ ⟨⟨_, _, _, rfl⟩, pre ++ [g], by rw [List.append_assoc]; exact ep, rfl⟩
    rw [toldG_snoc] at nx
    have tail : ∀ s : Say, s.Ok → s = (if some g.1 = me then mine else r.sayOf g.1) → tellS ca ⟨N, (endsD (frg R) EX).rt, (endsD (frg R) EX).bk, (endsD (frg R) EX).ct, (endsD (frg R) EX).ex⟩ [some (.ref a), some (.int host), some (.int number), some (oD me), some mine.d, some (.ref p), some (.int g.1), some (oD g.2), some s.d] (updD G p (.lst ((pre.map fun g : Guest => (⟨g.1, g.2, wordsOf (if some g.1 = me then mine else r.sayOf g.1) r.version r.ones r.plan.m⟩ : ToldG)).map ToldG.d))) := fun s oks es => by
      unfold tellS
      walk_at "hd"
      simp only [hga, true_and]
      walk_at "hd"
      refine ⟨s, r.version, r.ones, r.plan.m, rfl, oks, by omega, by omega, ?_⟩
      walk_at "hd"
      refine ⟨by rw [List.length_map, List.length_map, sizeLine_eq]; omega, ?_⟩
      subst es
      exact nx _
    unfold guestD
    walk_at "hd"
    refine veq_oD ?_
    by_cases hm : some g.1 = me
    · simp only [hm, decide_true, blD_bl, if_true]
      exact tail mine okm (by rw [if_pos hm])
    · simp only [hm, decide_false, blD_bl, Bool.false_eq_true, if_false, hga, lk_say_of, true_and]
      refine ⟨a, r, g.1, rfl, hga _, ok, ?_⟩
      exact tail _ (sayOf_ok ok _) (by rw [if_neg hm])
end Hd
/-! ### hands: models, promises of hands -/
namespace Hd
open PySem PySem.Spec PyProof.Rows L2 Cc Pl
open PySem.W (EachIs AllAlike Sortable dataLe)
def kvI {α : Type} (f : α → D) (l : List (Int × α)) : List (Key × D) := l.map fun p => (Sum.inl p.1, f p.2)
/-- a meeting of one's own, and where it stands -/
structure LH where
  h : Addr
  r : Addr
  hd : Addr
  kn : Addr
  rc : Rec
  heard : List HSay
  known : List (Int × Int)
def LH.fs (x : LH) : List (Str × D) := [("record", .ref x.r), ("heard", .ref x.hd), ("known", .ref x.kn)]
structure HostAt (ca : CA) (G : DH) (x : LH) : Prop where
  h : G x.h = some (.ins ca.Hosted x.fs)
  r : G x.r = some (.ins ca.Record x.rc.fs)
  hd : G x.hd = some (.dK (kvI Say.d x.heard))
  kn : G x.kn = some (.dK (kvI .int x.known))
  ne : x.hd ≠ x.kn
/-- one asked for by another -/
structure LA where
  q : Addr
  rq : Addr
  host : Int
  number : Int
  rc : Option Rec
  say : Say
  heard : Int
def LA.fs (x : LA) : List (Str × D) := [("record", match x.rc with
  | none => .non
  | some _ => .ref x.rq), ("say", x.say.d), ("heard", .int x.heard)]
structure AskAt (ca : CA) (G : DH) (x : LA) : Prop where
  q : G x.q = some (.ins ca.Asked x.fs)
  r : ∀ r, x.rc = some r → G x.rq = some (.ins ca.Record r.fs)
/-- a hand, and where it stands -/
structure LHand where
  a : Addr
  o : Addr
  c : Addr
  me : Int
  own : List LH
  calls : List LA
def LHand.fs (x : LHand) : List (Str × D) := [("me", .int x.me), ("own", .ref x.o), ("calls", .ref x.c)]
def callKey (x : LA) : List Key := [.inl x.host, .inl x.number]
/-- the hand's own three cells -/
structure Base (ca : CA) (G : DH) (x : LHand) : Prop where
  a : G x.a = some (.ins ca.Hand x.fs)
  o : G x.o = some (.lst (x.own.map fun y => .ref y.h))
  c : G x.c = some (.dT (x.calls.map fun y => (callKey y, .ref y.q)))
/-- .. with one of its own meetings -/
structure OwnAt (ca : CA) (G : DH) (x : LHand) (i : Nat) (y : LH) : Prop extends Base ca G x where
  i : x.own[i]? = some y
  y : HostAt ca G y
structure LH.Ok (x : LH) : Prop where
  rc : x.rc.Ok
  known : (x.known.map (·.1)).Nodup
  few : x.known.length < 64
def needs (x : LH) (hand : Int) : Bool := match x.known.find? fun p => decide (p.1 = hand) with
  | some p => decide (p.2 < x.rc.stamp)
  | none => false
def letterD (hand : Int) (body : List D) : D := .tup [.tup [.str "hand", .int hand], .tup body]
def tellD (me : Int) (i : Int) (r : Rec) (hand : Int) : D := letterD hand [.str "tell", .int me, .int i, r.d]
def lack (me : Int) (i : Int) (x : LH) : List D := ((sortI (x.known.map (·.1))).filter (needs x)).map (tellD me i x.rc)
/-! the promises -/
def isName (z : Str) : Bool := decide (z.length ≤ 10) && z.cps.toList.all fun c => decide (c ∈ ("abcdefghijklmnopqrstuvwxyz" : Str).cps.toList)
def sd_is_name : SpD := fun ds G R _ => ∃ z : Str, ds = [.str z] ∧ isName z = true ∧ R (.bl true) G
def sd_need_hand (ca : CA) : SpD := fun ds G R EX => ∃ n : Int, ds = [.int n] ∧ (0 ≤ n ∧ n ≤ 7 → R .non G) ∧ (¬ (0 ≤ n ∧ n ≤ 7) → EX (.ref ca.BadHand) none G)
def sd_Hosted__init_ (ca : CA) : SpD := fun ds G R _ => ∃ h r rc, ds = [.ref h, .ref r] ∧ G h = some (.ins ca.Hosted []) ∧ RecAt ca G r rc ∧ rc.Ok ∧ rc.hands.Nodup ∧
  ∀ hd kn, G hd = none → G kn = none → hd ≠ kn → R .non (updD (updD (updD G hd (.dK [])) kn (.dK (kvI .int (rc.hands.map fun x => (x, 0))))) h (.ins ca.Hosted [("record", .ref r), ("heard", .ref hd), ("known", .ref kn)]))
def sd_Hosted_take (ca : CA) : Nat → SpD
  | 0 => fun _ _ _ _ => False
  | _ + 1 => fun ds G R _ => ∃ (x : LH) (hand : Int), ds = [.ref x.h, .int hand] ∧ HostAt ca G x ∧ x.rc.Ok ∧ x.heard = [] ∧ 0 ≤ (x.rc.sayOf hand).n ∧ R .non G
def knows (known : List (Int × Int)) (hand : Int) : List (Int × Int) := if (known.any fun p => decide (p.1 = hand)) = true then known else known ++ [(hand, 0)]
def sd_Hosted_add (ca : CA) : Nat → SpD
  | 0 => fun _ _ _ _ => False
  | 1 => fun _ _ _ _ => False
  | _ + 2 => fun ds G R _ => ∃ (x : LH) (hand : Int) (b : Option Int), ds = [.ref x.h, .int hand, oD b] ∧ HostAt ca G x ∧ x.Ok ∧ (x.rc.add hand b nothing).Ok ∧ x.heard = [] ∧ hand ∉ x.rc.hands ∧ R .non (updD (putR ca G x.r (x.rc.add hand b nothing)) x.kn (.dK (kvI .int (knows x.known hand))))
def sd_Hand__init_ (ca : CA) : SpD := fun ds G R _ => ∃ (a : Addr) (n : Int), ds = [.ref a, .int n] ∧ 0 ≤ n ∧ n ≤ 7 ∧ G a = some (.ins ca.Hand []) ∧
  ∀ o c, G o = none → G c = none → o ≠ c → R .non (updD (updD (updD G o (.lst [])) c (.dT [])) a (.ins ca.Hand [("me", .int n), ("own", .ref o), ("calls", .ref c)]))
def sd_Hand_to (ca : CA) : SpD := fun ds G R _ => ∃ (a : Addr) (hand : Int) (body : List D), ds = [.ref a, .int hand, .tup body] ∧ R (letterD hand body) G
def sd_Hand_tell (ca : CA) : SpD := fun ds G R _ => ∃ (x : LHand) (i : Nat) (y : LH) (hand : Int), ds = [.ref x.a, .int i, .int hand] ∧ OwnAt ca G x i y ∧ R (tellD x.me i y.rc hand) G
def sd_Hand_lacking (ca : CA) : SpD := fun ds G R _ => ∃ (x : LHand) (i : Nat) (y : LH), ds = [.ref x.a, .int i] ∧ OwnAt ca G x i y ∧ y.Ok ∧ R (.rol (lack x.me i y)) G
def sd_Hand_hosted (ca : CA) : SpD := fun ds G R _ => ∃ (x : LHand) (i : Nat) (y : LH), ds = [.ref x.a, .int i] ∧ OwnAt ca G x i y ∧ y.rc.over = false ∧ x.own.length ≤ 1000 ∧ R (.ref y.h) G
def sd_Hand_need_guest (ca : CA) : SpD := fun ds G R EX => ∃ (x : LHand) (n : Int), ds = [.ref x.a, .int n] ∧ Base ca G x ∧ (0 ≤ n ∧ n ≤ 7 ∧ n ≠ x.me → R .non G) ∧ (¬ (0 ≤ n ∧ n ≤ 7 ∧ n ≠ x.me) → EX (.ref ca.BadHand) none G)
def sd_Hand_need_begin (ca : CA) : SpD := fun ds G R EX => ∃ (a : Addr) (n : Int), ds = [.ref a, .int n] ∧ (0 ≤ n ∧ n ≤ 999 → R .non G) ∧ (¬ (0 ≤ n ∧ n ≤ 999) → EX (.ref ca.BadWord) none G)
/-- a deed of the host that only writes at the record -/
def deed (ca : CA) (x : LHand) (i : Nat) (y : LH) (r : Rec) (G : DH) (R : DK) : Prop := OwnAt ca G x i y ∧ y.Ok ∧ y.rc.over = false ∧ x.own.length ≤ 1000 ∧ r.Ok ∧ R (.rol (lack x.me i { y with rc := r })) (putR ca G y.r r)
def sd_Hand_move (ca : CA) : SpD := fun ds G R _ => ∃ (x : LHand) (i : Nat) (y : LH) (b : Int), ds = [.ref x.a, .int i, .int b] ∧ 0 ≤ b ∧ b ≤ 999 ∧ deed ca x i y (y.rc.move b) G R
def sd_Hand_move_one (ca : CA) : SpD := fun ds G R _ => ∃ (x : LHand) (i : Nat) (y : LH) (k : Int) (b : Option Int), ds = [.ref x.a, .int i, .int k, oD b] ∧ (∀ n, b = some n → 0 ≤ n ∧ n ≤ 999) ∧ 0 ≤ k ∧ k < y.rc.plan.m ∧ deed ca x i y (y.rc.moveOne k b) G R
def sd_Hand_rename (ca : CA) : SpD := fun ds G R _ => ∃ (x : LHand) (i : Nat) (y : LH) (z : Str), ds = [.ref x.a, .int i, .str z] ∧ isName z = true ∧ deed ca x i y (Rec.grow { y.rc with note := z }) G R
def sd_Hand_call_off (ca : CA) : SpD := fun ds G R _ => ∃ (x : LHand) (i : Nat) (y : LH), ds = [.ref x.a, .int i] ∧ deed ca x i y (Rec.grow { y.rc with over := true }) G R
def sd_Hand_uninvite (ca : CA) : SpD := fun ds G R EX => ∃ (x : LHand) (i : Nat) (y : LH) (hand : Int), ds = [.ref x.a, .int i, .int hand] ∧ 0 ≤ hand ∧ hand ≤ 7 ∧ hand ≠ x.me ∧ OwnAt ca G x i y ∧ y.Ok ∧ y.rc.over = false ∧ x.own.length ≤ 1000 ∧
  (hand ∈ y.rc.hands → (y.rc.drop hand).Ok ∧ R (.rol (lack x.me i { y with rc := y.rc.drop hand })) (putR ca G y.r (y.rc.drop hand))) ∧ (hand ∉ y.rc.hands → EX (.ref ca.BadHand) none G)
def invited (y : LH) (hand : Int) : LH := { y with rc := y.rc.add hand none nothing, known := knows y.known hand }
def sd_Hand_invite (ca : CA) : SpD := fun ds G R EX => ∃ (x : LHand) (i : Nat) (y : LH) (hand : Int), ds = [.ref x.a, .int i, .int hand] ∧ 0 ≤ hand ∧ hand ≤ 7 ∧ hand ≠ x.me ∧ OwnAt ca G x i y ∧ y.Ok ∧ y.heard = [] ∧ y.rc.over = false ∧ x.own.length ≤ 1000 ∧
  (hand ∉ y.rc.hands → (invited y hand).Ok ∧ R (.rol (lack x.me i (invited y hand))) (updD (putR ca G y.r (invited y hand).rc) y.kn (.dK (kvI .int (invited y hand).known)))) ∧ (hand ∈ y.rc.hands → EX (.ref ca.BadHand) none G)
def called (h r hd kn : Addr) (p : Plan) (gs : List Int) : LH := ⟨h, r, hd, kn, first p gs, [], (first p gs).hands.map fun z => (z, 0)⟩
def putH (ca : CA) (G : DH) (y : LH) : DH := updD (updD (updD (updD G y.r (.ins ca.Record y.rc.fs)) y.hd (.dK (kvI Say.d y.heard))) y.kn (.dK (kvI .int y.known))) y.h (.ins ca.Hosted y.fs)
def sd_Hand_call (ca : CA) : SpD := fun ds G R _ => ∃ (x : LHand) (p : Plan) (gs : List Int), ds = [.ref x.a, p.d, .tup (gs.map .int)] ∧ Base ca G x ∧ p.Ok ∧ gs.Nodup ∧ gs.length ≤ 6 ∧ (∀ g ∈ gs, 0 ≤ g ∧ g ≤ 7 ∧ g ≠ x.me) ∧ x.own.length ≤ 1000 ∧
  ∀ h r hd kn, G h = none → G r = none → G hd = none → G kn = none → h ≠ r → h ≠ hd → h ≠ kn → r ≠ hd → r ≠ kn → hd ≠ kn →
    R (.tup [.int x.own.length, .rol (lack x.me x.own.length (called h r hd kn p gs))]) (updD (putH ca G (called h r hd kn p gs)) x.o (.lst ((x.own.map fun y => .ref y.h) ++ [.ref h])))
end Hd
/-! ### hands: readings -/
namespace Hd
open PySem PySem.Spec PyProof.Rows L2 Cc Pl
def b_is_name : DSt :=
  (sRet (dAndV (dCB dIsi (dCons (dVar 0) (dCons (dC (.ty "str")) dNil))) (dAndV (dOp dLe (dCB dLen (dCons (dVar 0) dNil)) (dC (.int 10))) (dOp dEq (dLcF (iStrD (dVar 0)) (gN 1) (dTest (dOp dNotIn (dVar 1) (dC (.str "abcdefghijklmnopqrstuvwxyz")))) (dVar 1) [1]) (dLstF dNil)))))
abbrev N_is_name : List Str := ["text", "sign"]
def b_need_hand (ca : CA) : DSt :=
  (sIf (dNot (dTest (dCall Pl.sd_is_between (dCons (dVar 0) (dCons (dC (.int 0)) (dCons (dOp dSub (dC (.int 8)) (dC (.int 1))) dNil)))))) (sRaise ca.BadHand) sNext)
abbrev N_need_hand : List Str := ["number"]
def b_Hosted__init_ (ca : CA) : DSt :=
  (sSeq (sFldD ca.Hosted "record" (dVar 0) (dVar 1))
  (sSeq (sFldD ca.Hosted "heard" (dVar 0) dNewK)
  (sFldD ca.Hosted "known" (dVar 0) (dCB dDictP (dCons (dLcF (iSq (dMeth ca.Record "hands" (sd_Record_hands ca) (dVar 1) dNil)) (gN 2) dYes (dTup (dCons (dVar 2) (dCons (dC (.int 0)) dNil))) [2]) dNil)))))
abbrev N_Hosted__init_ : List Str := ["self", "record", "hand"]
def b_Hosted_take (ca : CA) (k : Nat) : DSt :=
  (sSeq (sAsg (dGet2 (dFld ca.Hosted "heard" (dVar 0)) (dVar 1) (dC (.tup [(.int 0), .non, (.tup []), .non]))) (gN 2))
  (sSeq (sIf (dTest (dOp dGt (dOp dIx (dVar 2) (dC (.int 0))) (dOp dIx (dMeth ca.Record "say_of" (sd_Record_say_of ca) (dFld ca.Hosted "record" (dVar 0)) (dCons (dVar 1) dNil)) (dC (.int 0))))) (sDrop (dMeth ca.Record "hear" (sd_Record_hear ca) (dFld ca.Hosted "record" (dVar 0)) (dCons (dVar 1) (dCons (dVar 2) dNil)))) sNext)
  (sIf (dTest (dOp dNotN (dOp dIx (dVar 2) (dC (.int 3))) (dC .non))) (sDrop (dMeth ca.Hosted "add" (sd_Hosted_add ca k) (dVar 0) (dCons (dOp dIx (dVar 2) (dC (.int 3))) (dCons (dVar 1) dNil)))) sNext)))
abbrev N_Hosted_take : List Str := ["self", "hand", "say"]
def b_Hosted_add (ca : CA) (k : Nat) : DSt :=
  (sIf (dTest (dOp dNotIn (dVar 1) (dMeth ca.Record "hands" (sd_Record_hands ca) (dFld ca.Hosted "record" (dVar 0)) dNil))) (sSeq (sDrop (dMeth ca.Record "add" (sd_Record_add ca) (dFld ca.Hosted "record" (dVar 0)) (dCons (dVar 1) (dCons (dVar 2) (dCons (dC (.tup [(.int 0), .non, (.tup []), .non])) dNil)))))
  (sSeq (sDrop (dSetd (dFld ca.Hosted "known" (dVar 0)) (dVar 1) (dC (.int 0))))
  (sDrop (dMeth ca.Hosted "take" (sd_Hosted_take ca k) (dVar 0) (dCons (dVar 1) dNil))))) sNext)
abbrev N_Hosted_add : List Str := ["self", "hand", "by"]
def b_Hand__init_ (ca : CA) : DSt :=
  (sSeq (sDrop (dCall (sd_need_hand ca) (dCons (dVar 1) dNil)))
  (sSeq (sFldD ca.Hand "me" (dVar 0) (dVar 1))
  (sSeq (sFldD ca.Hand "own" (dVar 0) (dLst dNil))
  (sFldD ca.Hand "calls" (dVar 0) dNewT))))
abbrev N_Hand__init_ : List Str := ["self", "number"]
def b_Hand_to : DSt :=
  (sRet (dTup (dCons (dTup (dCons (dC (.str "hand")) (dCons (dVar 1) dNil))) (dCons (dVar 2) dNil))))
abbrev N_Hand_to : List Str := ["self", "hand", "body"]
def b_Hand_tell (ca : CA) : DSt :=
  (sRet (dMeth ca.Hand "to" (sd_Hand_to ca) (dVar 0) (dCons (dVar 2) (dCons (dTup (dCons (dC (.str "tell")) (dCons (dFld ca.Hand "me" (dVar 0)) (dCons (dVar 1) (dCons (dMeth ca.Record "parts" (sd_Record_parts ca) (dFld ca.Hosted "record" (dOp dIx (dFld ca.Hand "own" (dVar 0)) (dVar 1))) dNil) dNil))))) dNil))))
abbrev N_Hand_tell : List Str := ["self", "number", "hand"]
def b_Hand_lacking (ca : CA) : DSt :=
  (sSeq (sAsg (dOp dIx (dFld ca.Hand "own" (dVar 0)) (dVar 1)) (gN 2))
  (sRet (dLcF (iSq (dCB dSortDI (dCons (dFld ca.Hosted "known" (dVar 2)) dNil))) (gN 3) (dTest (dOp dLt (dOp dIx (dFld ca.Hosted "known" (dVar 2)) (dVar 3)) (dFld ca.Record "stamp" (dFld ca.Hosted "record" (dVar 2))))) (dMeth ca.Hand "tell" (sd_Hand_tell ca) (dVar 0) (dCons (dVar 1) (dCons (dVar 3) dNil))) [3])))
abbrev N_Hand_lacking : List Str := ["self", "number", "mine", "hand"]
def b_Hand_hosted (ca : CA) : DSt :=
  (sSeq (sIf (dOr (dNot (dTest (dCall Pl.sd_is_between (dCons (dVar 1) (dCons (dC (.int 0)) (dCons (dOp dSub (dCB dLen (dCons (dFld ca.Hand "own" (dVar 0)) dNil)) (dC (.int 1))) dNil)))))) (dTest (dFld ca.Record "over" (dFld ca.Hosted "record" (dOp dIx (dFld ca.Hand "own" (dVar 0)) (dVar 1)))))) (sRaise ca.NoMeeting) sNext)
  (sRet (dOp dIx (dFld ca.Hand "own" (dVar 0)) (dVar 1))))
abbrev N_Hand_hosted : List Str := ["self", "number"]
def b_Hand_need_guest (ca : CA) : DSt :=
  (sSeq (sDrop (dCall (sd_need_hand ca) (dCons (dVar 1) dNil)))
  (sIf (dTest (dOp dEq (dVar 1) (dFld ca.Hand "me" (dVar 0)))) (sRaise ca.BadHand) sNext))
abbrev N_Hand_need_guest : List Str := ["self", "hand"]
def b_Hand_call (ca : CA) : DSt :=
  (sSeq (sDrop (dCall (Pl.sd_need_plan ca.BadPlan) (dCons (dVar 1) dNil)))
  (sSeq (sFor (iSq (dVar 2)) (gN 3) (sDrop (dMeth ca.Hand "need_guest" (sd_Hand_need_guest ca) (dVar 0) (dCons (dVar 3) dNil))))
  (sSeq (sIf (dOr (dTest (dOp dGt (dCB dLen (dCons (dVar 2) dNil)) (dC (.int 6)))) (dTest (dOp dLt (dLenSet (dVar 2)) (dCB dLen (dCons (dVar 2) dNil))))) (sRaise ca.BadHand) sNext)
  (sSeq (sDrop (dBM "list" mAppend (dFld ca.Hand "own" (dVar 0)) (dCons (dMake ca.Hosted (sd_Hosted__init_ ca) (dCons (dCall (sd_first_record ca) (dCons (dVar 1) (dCons (dVar 2) dNil))) dNil)) dNil)))
  (sRet (dTup (dCons (dOp dSub (dCB dLen (dCons (dFld ca.Hand "own" (dVar 0)) dNil)) (dC (.int 1))) (dCons (dMeth ca.Hand "lacking" (sd_Hand_lacking ca) (dVar 0) (dCons (dOp dSub (dCB dLen (dCons (dFld ca.Hand "own" (dVar 0)) dNil)) (dC (.int 1))) dNil)) dNil))))))))
abbrev N_Hand_call : List Str := ["self", "plan", "guests", "hand"]
def b_Hand_need_begin (ca : CA) : DSt :=
  (sIf (dNot (dTest (dCall Pl.sd_is_between (dCons (dVar 1) (dCons (dC (.int 0)) (dCons (dC (.int 999)) dNil)))))) (sRaise ca.BadWord) sNext)
abbrev N_Hand_need_begin : List Str := ["self", "begin"]
def b_Hand_move (ca : CA) : DSt :=
  (sSeq (sAsg (dMeth ca.Hand "hosted" (sd_Hand_hosted ca) (dVar 0) (dCons (dVar 1) dNil)) (gN 3))
  (sSeq (sDrop (dMeth ca.Hand "need_begin" (sd_Hand_need_begin ca) (dVar 0) (dCons (dVar 2) dNil)))
  (sSeq (sDrop (dMeth ca.Record "move" (sd_Record_move ca) (dFld ca.Hosted "record" (dVar 3)) (dCons (dVar 2) dNil)))
  (sRet (dMeth ca.Hand "lacking" (sd_Hand_lacking ca) (dVar 0) (dCons (dVar 1) dNil))))))
abbrev N_Hand_move : List Str := ["self", "number", "begin", "mine"]
def b_Hand_move_one (ca : CA) : DSt :=
  (sSeq (sAsg (dMeth ca.Hand "hosted" (sd_Hand_hosted ca) (dVar 0) (dCons (dVar 1) dNil)) (gN 4))
  (sSeq (sIf (dNot (dTest (dCall Pl.sd_is_between (dCons (dVar 2) (dCons (dC (.int 0)) (dCons (dOp dSub (dOp dIx (dFld ca.Record "plan" (dFld ca.Hosted "record" (dVar 4))) (dC (.int 3))) (dC (.int 1))) dNil)))))) (sRaise ca.NoMeeting) sNext)
  (sSeq (sIf (dTest (dOp dNotN (dVar 3) (dC .non))) (sDrop (dMeth ca.Hand "need_begin" (sd_Hand_need_begin ca) (dVar 0) (dCons (dVar 3) dNil))) sNext)
  (sSeq (sDrop (dMeth ca.Record "move_one" (sd_Record_move_one ca) (dFld ca.Hosted "record" (dVar 4)) (dCons (dVar 2) (dCons (dVar 3) dNil))))
  (sRet (dMeth ca.Hand "lacking" (sd_Hand_lacking ca) (dVar 0) (dCons (dVar 1) dNil)))))))
abbrev N_Hand_move_one : List Str := ["self", "number", "k", "begin", "mine"]
def b_Hand_rename (ca : CA) : DSt :=
  (sSeq (sAsg (dMeth ca.Hand "hosted" (sd_Hand_hosted ca) (dVar 0) (dCons (dVar 1) dNil)) (gN 3))
  (sSeq (sIf (dNot (dTest (dCall sd_is_name (dCons (dVar 2) dNil)))) (sRaise ca.BadWord) sNext)
  (sSeq (sFldD ca.Record "note" (dFld ca.Hosted "record" (dVar 3)) (dVar 2))
  (sSeq (sDrop (dMeth ca.Record "grow" (sd_Record_grow ca) (dFld ca.Hosted "record" (dVar 3)) dNil))
  (sRet (dMeth ca.Hand "lacking" (sd_Hand_lacking ca) (dVar 0) (dCons (dVar 1) dNil)))))))
abbrev N_Hand_rename : List Str := ["self", "number", "text", "mine"]
def b_Hand_call_off (ca : CA) : DSt :=
  (sSeq (sAsg (dMeth ca.Hand "hosted" (sd_Hand_hosted ca) (dVar 0) (dCons (dVar 1) dNil)) (gN 2))
  (sSeq (sFldD ca.Record "over" (dFld ca.Hosted "record" (dVar 2)) (dC (.bl true)))
  (sSeq (sDrop (dMeth ca.Record "grow" (sd_Record_grow ca) (dFld ca.Hosted "record" (dVar 2)) dNil))
  (sRet (dMeth ca.Hand "lacking" (sd_Hand_lacking ca) (dVar 0) (dCons (dVar 1) dNil))))))
abbrev N_Hand_call_off : List Str := ["self", "number", "mine"]
def b_Hand_invite (ca : CA) : DSt :=
  (sSeq (sAsg (dMeth ca.Hand "hosted" (sd_Hand_hosted ca) (dVar 0) (dCons (dVar 1) dNil)) (gN 3))
  (sSeq (sDrop (dMeth ca.Hand "need_guest" (sd_Hand_need_guest ca) (dVar 0) (dCons (dVar 2) dNil)))
  (sSeq (sIf (dTest (dOp dIn (dVar 2) (dMeth ca.Record "hands" (sd_Record_hands ca) (dFld ca.Hosted "record" (dVar 3)) dNil))) (sRaise ca.BadHand) sNext)
  (sSeq (sDrop (dMeth ca.Hosted "add" (sd_Hosted_add ca 2) (dVar 3) (dCons (dVar 2) (dCons (dC .non) dNil))))
  (sRet (dMeth ca.Hand "lacking" (sd_Hand_lacking ca) (dVar 0) (dCons (dVar 1) dNil)))))))
abbrev N_Hand_invite : List Str := ["self", "number", "hand", "mine"]
def b_Hand_uninvite (ca : CA) : DSt :=
  (sSeq (sAsg (dMeth ca.Hand "hosted" (sd_Hand_hosted ca) (dVar 0) (dCons (dVar 1) dNil)) (gN 3))
  (sSeq (sDrop (dMeth ca.Hand "need_guest" (sd_Hand_need_guest ca) (dVar 0) (dCons (dVar 2) dNil)))
  (sSeq (sIf (dTest (dOp dNotIn (dVar 2) (dMeth ca.Record "hands" (sd_Record_hands ca) (dFld ca.Hosted "record" (dVar 3)) dNil))) (sRaise ca.BadHand) sNext)
  (sSeq (sDrop (dMeth ca.Record "drop" (sd_Record_drop ca) (dFld ca.Hosted "record" (dVar 3)) (dCons (dVar 2) dNil)))
  (sRet (dMeth ca.Hand "lacking" (sd_Hand_lacking ca) (dVar 0) (dCons (dVar 1) dNil)))))))
abbrev N_Hand_uninvite : List Str := ["self", "number", "hand", "mine"]
def b_Hand_book (ca : CA) : DSt :=
  (sSeq (sAsg (dLst dNil) (gN 1))
  (sSeq (sFor (iEnumD (dFld ca.Hand "own" (dVar 0))) (gT 2 (gsCons (gN 2) (gsCons (gN 3) gsNil))) (sIf (dNot (dTest (dFld ca.Record "over" (dFld ca.Hosted "record" (dVar 3))))) (sDrop (dBM "list" mAppend (dVar 1) (dCons (dMeth ca.Record "told" (sd_Record_told ca) (dFld ca.Hosted "record" (dVar 3)) (dCons (dFld ca.Hand "me" (dVar 0)) (dCons (dVar 2) (dCons (dC .non) (dCons (dC (.tup [(.int 0), .non, (.tup []), .non])) dNil))))) dNil))) sNext))
  (sSeq (sFor (iSq (dCB dSortDT (dCons (dFld ca.Hand "calls" (dVar 0)) dNil))) (gT 2 (gsCons (gN 4) (gsCons (gN 2) gsNil))) (sSeq (sAsg (dOp dIx (dFld ca.Hand "calls" (dVar 0)) (dKey (dCons (dVar 4) (dCons (dVar 2) dNil)))) (gN 5))
  (sIf (dAnd (dTest (dOp dNotN (dFld ca.Asked "record" (dVar 5)) (dC .non))) (dAnd (dNot (dTest (dFld ca.Record "over" (dFld ca.Asked "record" (dVar 5))))) (dTest (dOp dIn (dFld ca.Hand "me" (dVar 0)) (dMeth ca.Record "hands" (sd_Record_hands ca) (dFld ca.Asked "record" (dVar 5)) dNil))))) (sDrop (dBM "list" mAppend (dVar 1) (dCons (dMeth ca.Record "told" (sd_Record_told ca) (dFld ca.Asked "record" (dVar 5)) (dCons (dVar 4) (dCons (dVar 2) (dCons (dFld ca.Hand "me" (dVar 0)) (dCons (dFld ca.Asked "say" (dVar 5)) dNil))))) dNil))) sNext)))
  (sFz 1 (sRet (dSortGF encII kII (dVar 1)))))))
abbrev N_Hand_book : List Str := ["self", "found", "number", "mine", "host", "call"]
end Hd
/-! ### hands: the hands' defs by their readings -/
namespace Hd
open PySem PySem.Spec PyProof.Rows L2 Cc Pl
open PySem.W (EachIs AllAlike Sortable dataLe)
theorem lh_record (x : LH) : List.lookup ("record" : Str) x.fs = some (.ref x.r) := rfl
theorem lh_heard (x : LH) : List.lookup ("heard" : Str) x.fs = some (.ref x.hd) := rfl
theorem lh_known (x : LH) : List.lookup ("known" : Str) x.fs = some (.ref x.kn) := rfl
theorem lh_take (x : LH) : List.lookup ("take" : Str) x.fs = none := rfl
theorem lh_add (x : LH) : List.lookup ("add" : Str) x.fs = none := rfl
theorem la_me (x : LHand) : List.lookup ("me" : Str) x.fs = some (.int x.me) := rfl
theorem la_own (x : LHand) : List.lookup ("own" : Str) x.fs = some (.ref x.o) := rfl
theorem la_calls (x : LHand) : List.lookup ("calls" : Str) x.fs = some (.ref x.c) := rfl
theorem la_to (x : LHand) : List.lookup ("to" : Str) x.fs = none := rfl
theorem la_tell (x : LHand) : List.lookup ("tell" : Str) x.fs = none := rfl
theorem la_lacking (x : LHand) : List.lookup ("lacking" : Str) x.fs = none := rfl
theorem la_hosted (x : LHand) : List.lookup ("hosted" : Str) x.fs = none := rfl
theorem la_need_guest (x : LHand) : List.lookup ("need_guest" : Str) x.fs = none := rfl
theorem la_need_begin (x : LHand) : List.lookup ("need_begin" : Str) x.fs = none := rfl
section
variable {ca : CA} {G : DH} {x : LHand} {i : Nat} {y : LH}
/-- own[i] -/
theorem own_at (h : OwnAt ca G x i y) {R : DK} (q : R (.ref y.h) G) : dIx (.ref x.o) (.int i) G R := by
  have e : L2.atI (x.own.map fun y => D.ref y.h) (i : Int) = some (.ref y.h) := Cc.atI_nat (by rw [List.getElem?_map, h.i]; rfl)
  unfold dIx itemOf
  dsimp only
  rw [h.o]
  dsimp only
  rw [e]
  exact q
theorem known_at {hand : Int} {p : Int × Int} (h : HostAt ca G y) (e : (y.known.find? fun p => decide (p.1 = hand)) = some p) {R : DK} (q : R (.int p.2) G) : dIx (.ref y.kn) (.int hand) G R := by
  have e2 : lookK (kvI D.int y.known) (Sum.inl hand) = some (.int p.2) := by
    unfold kvI
    rw [look_map, e]
    rfl
  unfold dIx itemOf
  dsimp only
  rw [h.kn]
  dsimp only [D.ky, Option.bind_some]
  rw [e2]
  exact q
end
theorem pure_Hand_to (ds : List D) (ca : CA) (G : DH) (R : DK) (EX : DX) (h : sd_Hand_to ca ds G R EX) : b_Hand_to (endsD (frg R) EX) (startD N_Hand_to ds) G := by
  obtain ⟨a, hand, body, rfl, q⟩ := h
  show b_Hand_to (endsD (frg R) EX) [some (.ref a), some (.int hand), some (.tup body)] G
  unfold b_Hand_to
  walk_at "hd"
  exact frg_of q
theorem pure_Hand_tell (ca : CA) (ds : List D) (G : DH) (R : DK) (EX : DX) (h : sd_Hand_tell ca ds G R EX) : b_Hand_tell ca (endsD (frg R) EX) (startD N_Hand_tell ds) G := by
  obtain ⟨x, i, y, hand, rfl, h, q⟩ := h
  show b_Hand_tell ca (endsD (frg R) EX) [some (.ref x.a), some (.int i), some (.int hand)] G
  unfold b_Hand_tell
  walk_at "hd"
  simp only [h.a, la_to, la_me, la_own, true_and]
  refine own_at h ?_
  simp only [h.y.h, lh_record, h.y.r, lk_parts, true_and]
  refine ⟨y.r, y.rc, rfl, h.y.r, ?_⟩
  walk_at "hd"
  refine ⟨x.a, hand, _, rfl, ?_⟩
  exact frg_of q
theorem pure_Hand_lacking (ca : CA) (ds : List D) (G : DH) (R : DK) (EX : DX) (h : sd_Hand_lacking ca ds G R EX) : b_Hand_lacking ca (endsD (frg R) EX) (startD N_Hand_lacking ds) G := by
  obtain ⟨x, i, y, rfl, h, ok, q⟩ := h
  show b_Hand_lacking ca (endsD (frg R) EX) [some (.ref x.a), some (.int i), none, none] G
  unfold b_Hand_lacking
  walk_at "hd"
  simp only [h.a, la_own, true_and]
  refine own_at h ?_
  simp only [dLcF, iSq]
  walk_at "hd"
  simp only [h.y.h, lh_known, true_and]
  have hs : (sortI (y.known.map (·.1))).length = y.known.length := by unfold sortI; rw [List.length_mergeSort, List.length_map]
  refine ⟨kvI .int y.known, y.known.map (·.1), ?_, ?_, by rw [List.length_map]; exact ok.few, ?_⟩
  · simp only [dictOf, h.y.kn]
  · unfold kvI
    rw [List.map_map, List.map_map]
    rfl
  · dsimp only
    refine goLcF_mem (ok := fun _ => True) (G := G) (f := D.int) (fun hand : Int => if needs y hand = true then some (tellD x.me i y.rc hand) else none) trivial (sortI (y.known.map (·.1))) [] (fun hand hm C1 C2 hC => ?_) (by rw [List.length_nil, hs]; exact sz_small (by have := ok.few; omega)) ?_
    · have hm2 : hand ∈ y.known.map (·.1) := (List.mergeSort_perm _ _).mem_iff.mp hm
      obtain ⟨p, hp, hpe⟩ := List.mem_map.mp hm2
      walk_at "hd"
      simp only [h.y.h, lh_known, lh_record, h.y.r, lk_stamp, true_and]
      obtain ⟨p', hp'⟩ : ∃ p', (y.known.find? fun p => decide (p.1 = hand)) = some p' := by
        cases hf : y.known.find? fun p => decide (p.1 = hand) with
        | some p' => exact ⟨p', rfl⟩
        | none =>
          have := List.find?_eq_none.mp hf p hp
          simp [hpe] at this
      refine known_at h.y hp' ?_
      have en : needs y hand = decide (p'.2 < y.rc.stamp) := by
        unfold needs
        rw [hp']
      simp only [h.y.h, lh_record, h.y.r, lk_stamp, true_and]
      walk_at "hd"
      rw [en] at hC
      by_cases hl : p'.2 < y.rc.stamp
      · rw [if_pos hl]
        simp only [hl, decide_true, if_true] at hC
        simp only [h.a, la_tell, true_and]
        exact ⟨x, i, y, hand, rfl, h, hC⟩
      · rw [if_neg hl]
        simp only [hl, decide_false, Bool.false_eq_true, if_false] at hC
        exact hC
    · rw [fm_filter, List.nil_append]
      exact frg_of q
theorem pure_need_hand (ca : CA) (ds : List D) (G : DH) (R : DK) (EX : DX) (h : sd_need_hand ca ds G R EX) : b_need_hand ca (endsD (frg R) EX) (startD N_need_hand ds) G := by
  obtain ⟨n, rfl, q1, q2⟩ := h
  show b_need_hand ca (endsD (frg R) EX) [some (.int n)] G
  unfold b_need_hand
  walk_at "hd"
  refine ⟨.int n, 0, 7, rfl, .int _, ?_⟩
  walk_at "hd"
  unfold btw
  by_cases h : 0 ≤ n ∧ n ≤ 7
  · have e : (decide (0 ≤ n) && decide (n ≤ 7)) = true := by rw [decide_eq_true h.1, decide_eq_true h.2]; rfl
    simp only [e]
    walk_at "hd"
    exact frg_of (q1 h)
  · have e : (decide (0 ≤ n) && decide (n ≤ 7)) = false := by
      rw [Bool.and_eq_false_iff, decide_eq_false_iff_not, decide_eq_false_iff_not]
      omega
    simp only [e]
    walk_at "hd"
    exact q2 h
theorem pure_Hand_need_begin (ca : CA) (ds : List D) (G : DH) (R : DK) (EX : DX) (h : sd_Hand_need_begin ca ds G R EX) : b_Hand_need_begin ca (endsD (frg R) EX) (startD N_Hand_need_begin ds) G := by
  obtain ⟨a, n, rfl, q1, q2⟩ := h
  show b_Hand_need_begin ca (endsD (frg R) EX) [some (.ref a), some (.int n)] G
  unfold b_Hand_need_begin
  walk_at "hd"
  refine ⟨.int n, 0, 999, rfl, .int _, ?_⟩
  walk_at "hd"
  unfold btw
  by_cases h : 0 ≤ n ∧ n ≤ 999
  · have e : (decide (0 ≤ n) && decide (n ≤ 999)) = true := by rw [decide_eq_true h.1, decide_eq_true h.2]; rfl
    simp only [e]
    walk_at "hd"
    exact frg_of (q1 h)
  · have e : (decide (0 ≤ n) && decide (n ≤ 999)) = false := by
      rw [Bool.and_eq_false_iff, decide_eq_false_iff_not, decide_eq_false_iff_not]
      omega
    simp only [e]
    walk_at "hd"
    exact q2 h
theorem pure_Hand_need_guest (ca : CA) (ds : List D) (G : DH) (R : DK) (EX : DX) (h : sd_Hand_need_guest ca ds G R EX) : b_Hand_need_guest ca (endsD (frg R) EX) (startD N_Hand_need_guest ds) G := by
  obtain ⟨x, n, rfl, h, q1, q2⟩ := h
  show b_Hand_need_guest ca (endsD (frg R) EX) [some (.ref x.a), some (.int n)] G
  unfold b_Hand_need_guest
  walk_at "hd"
  refine ⟨n, rfl, fun hn => ?_, fun hn => q2 fun z => hn ⟨z.1, z.2.1⟩⟩
  walk_at "hd"
  simp only [h.a, la_me, true_and]
  walk_at "hd"
  by_cases e : n = x.me
  · rw [if_pos e]
    exact q2 fun z => z.2.2 e
  · rw [if_neg e]
    exact frg_of (q1 ⟨hn.1, hn.2, e⟩)
theorem pure_Hand_hosted (ca : CA) (ds : List D) (G : DH) (R : DK) (EX : DX) (h : sd_Hand_hosted ca ds G R EX) : b_Hand_hosted ca (endsD (frg R) EX) (startD N_Hand_hosted ds) G := by
  obtain ⟨x, i, y, rfl, h, ho, hl, q⟩ := h
  show b_Hand_hosted ca (endsD (frg R) EX) [some (.ref x.a), some (.int i)] G
  have hi : i < x.own.length := by
    have := h.i
    rw [List.getElem?_eq_some_iff] at this
    exact this.1
  unfold b_Hand_hosted
  walk_at "hd"
  simp only [h.a, la_own, true_and]
  have hlen : ∀ R : DK, R (.int x.own.length) G → dLen [.ref x.o] G R := fun R q => by
    unfold dLen lenOf
    dsimp only
    rw [h.o]
    dsimp only
    rw [List.length_map]
    exact q
  refine hlen _ ?_
  walk_at "hd"
  refine ⟨.int i, 0, (x.own.length : Int) - 1, rfl, .int _, ?_⟩
  have e : btw (.int i) 0 ((x.own.length : Int) - 1) = true := by
    unfold btw
    simp only [Bool.and_eq_true, decide_eq_true_eq]
    omega
  rw [e]
  walk_at "hd"
  simp only [h.a, la_own, true_and]
  refine own_at h ?_
  simp only [h.y.h, lh_record, h.y.r, lk_over, ho, true_and]
  walk_at "hd"
  simp only [h.a, la_own, true_and]
  refine own_at h ?_
  exact frg_of q
theorem set_refs {own : List LH} {i : Nat} {y y' : LH} (h : own[i]? = some y) (e : y'.h = y.h) : ((own.set i y').map fun z => D.ref z.h) = own.map fun z => .ref z.h := by
  rw [List.map_set, e]
  refine List.ext_getElem? fun j => ?_
  rw [List.getElem?_set]
  split
  · rename_i hj
    subst hj
    split
    · rw [List.getElem?_map, h]; rfl
    · rename_i hl
      rw [List.getElem?_eq_none (by omega)]
  · rfl
section
variable {ca : CA} {G : DH} {x : LHand} {i : Nat} {y : LH}
def insLen : C → Nat
  | .ins _ fs => fs.length
  | _ => 0
theorem OwnAt.na (h : OwnAt ca G x i y) : x.a ≠ y.r := neDD h.a h.y.r fun z => absurd (show (3 : Nat) = 8 from congrArg insLen z) (by decide)
theorem OwnAt.no (h : OwnAt ca G x i y) : x.o ≠ y.r := neDD h.o h.y.r fun z => by cases z
theorem OwnAt.nc (h : OwnAt ca G x i y) : x.c ≠ y.r := neDD h.c h.y.r fun z => by cases z
theorem HostAt.nh (h : HostAt ca G y) : y.h ≠ y.r := neDD h.h h.r fun z => absurd (show (3 : Nat) = 8 from congrArg insLen z) (by decide)
theorem HostAt.nhd (h : HostAt ca G y) : y.hd ≠ y.r := neDD h.hd h.r fun z => by cases z
theorem HostAt.nkn (h : HostAt ca G y) : y.kn ≠ y.r := neDD h.kn h.r fun z => by cases z
theorem HostAt.nhk (h : HostAt ca G y) : y.h ≠ y.kn := neDD h.h h.kn fun z => by cases z
theorem HostAt.put (h : HostAt ca G y) (r : Rec) : HostAt ca (putR ca G y.r r) { y with rc := r } :=
  ⟨by rw [putR, updD_ne h.nh]; exact h.h, updD_same, by rw [putR, updD_ne h.nhd]; exact h.hd, by rw [putR, updD_ne h.nkn]; exact h.kn, h.ne⟩
theorem OwnAt.put (h : OwnAt ca G x i y) (r : Rec) : OwnAt ca (putR ca G y.r r) { x with own := x.own.set i { y with rc := r } } i { y with rc := r } :=
  { a := by rw [putR, updD_ne h.na]; exact h.a
    o := by
      rw [putR, updD_ne h.no]
      show _ = some (C.lst ((x.own.set i { y with rc := r }).map fun z => D.ref z.h))
      rw [set_refs (y' := { y with rc := r }) h.i rfl]
      exact h.o
    c := by rw [putR, updD_ne h.nc]; exact h.c
    i := by
      have hi : i < x.own.length := (List.getElem?_eq_some_iff.mp h.i).1
      rw [List.getElem?_set_self hi]
    y := h.y.put r }
end
/-- after a deed that wrote at the record: what is told -/
theorem lack_of {ca : CA} {G : DH} {x : LHand} {i : Nat} {y : LH} {r : Rec} {R : DK} {EX : DX} (h : OwnAt ca G x i y) (ok : y.Ok) (okr : r.Ok) (q : R (.rol (lack x.me i { y with rc := r })) (putR ca G y.r r)) :
    (match putR ca G y.r r x.a with
    | some (.ins c fs) => c = ca.Hand ∧ List.lookup ("lacking" : Str) fs = none ∧ sd_Hand_lacking ca [.ref x.a, .int i] (putR ca G y.r r) R EX
    | _ => False) := by
  have h' := h.put r
  rw [show putR ca G y.r r x.a = some (.ins ca.Hand x.fs) from by rw [putR, updD_ne h.na]; exact h.a]
  exact ⟨rfl, rfl, { x with own := x.own.set i { y with rc := r } }, i, _, rfl, h', ⟨okr, ok.known, ok.few⟩, q⟩
theorem pure_Hand_move (ca : CA) (ds : List D) (G : DH) (R : DK) (EX : DX) (h : sd_Hand_move ca ds G R EX) : b_Hand_move ca (endsD (frg R) EX) (startD N_Hand_move ds) G := by
  obtain ⟨x, i, y, b, rfl, b0, b1, h, ok, ho, hl, okr, q⟩ := h
  show b_Hand_move ca (endsD (frg R) EX) [some (.ref x.a), some (.int i), some (.int b), none] G
  unfold b_Hand_move
  walk_at "hd"
  simp only [h.a, la_hosted, true_and]
  refine ⟨x, i, y, rfl, h, ho, hl, ?_⟩
  simp only [h.a, la_need_begin, true_and]
  refine ⟨x.a, b, rfl, fun _ => ?_, fun z => absurd ⟨b0, b1⟩ z⟩
  walk_at "hd"
  simp only [h.y.h, lh_record, h.y.r, lk_move, true_and]
  refine ⟨y.r, y.rc, b, rfl, h.y.r, ?_⟩
  exact lack_of h ok okr (frg_of q)
end Hd
/-! ### hands: more deeds -/
namespace Hd
open PySem PySem.Spec PyProof.Rows L2 Cc Pl
open PySem.W (EachIs AllAlike Sortable dataLe)
theorem pure_Hand_move_one (ca : CA) (ds : List D) (G : DH) (R : DK) (EX : DX) (h : sd_Hand_move_one ca ds G R EX) : b_Hand_move_one ca (endsD (frg R) EX) (startD N_Hand_move_one ds) G := by
  obtain ⟨x, i, y, k, b, rfl, hb, k0, k1, h, ok, ho, hl, okr, q⟩ := h
  show b_Hand_move_one ca (endsD (frg R) EX) [some (.ref x.a), some (.int i), some (.int k), some (oD b), none] G
  unfold b_Hand_move_one
  walk_at "hd"
  simp only [h.a, la_hosted, true_and]
  refine ⟨x, i, y, rfl, h, ho, hl, ?_⟩
  simp only [h.y.h, lh_record, h.y.r, lk_plan, true_and]
  walk_at "hd"
  refine ⟨.int k, 0, y.rc.plan.m - 1, rfl, .int _, ?_⟩
  have e : btw (.int k) 0 (y.rc.plan.m - 1) = true := by
    unfold btw
    simp only [Bool.and_eq_true, decide_eq_true_eq]
    omega
  rw [e]
  walk_at "hd"
  have tail : sd_Record_move_one ca [.ref y.r, .int k, oD b] G (fun _ G1 => (match G1 x.a with
    | some (.ins c fs) => c = ca.Hand ∧ List.lookup ("lacking" : Str) fs = none ∧ sd_Hand_lacking ca [.ref x.a, .int i] G1 (frg R) EX
    | _ => False)) EX := ⟨y.r, y.rc, k, b, rfl, h.y.r, ok.rc, lack_of h ok okr (frg_of q)⟩
  cases b with
  | none =>
    simp only [oD] at tail ⊢
    walk_at "hd"
    simp only [h.y.h, lh_record, h.y.r, lk_move_one, true_and]
    exact tail
  | some n =>
    simp only [oD] at tail ⊢
    walk_at "hd"
    simp only [h.a, la_need_begin, true_and]
    refine ⟨x.a, n, rfl, fun _ => ?_, fun z => absurd (hb n rfl) z⟩
    walk_at "hd"
    simp only [h.y.h, lh_record, h.y.r, lk_move_one, true_and]
    exact tail
theorem pure_Hand_rename (ca : CA) (ds : List D) (G : DH) (R : DK) (EX : DX) (h : sd_Hand_rename ca ds G R EX) : b_Hand_rename ca (endsD (frg R) EX) (startD N_Hand_rename ds) G := by
  obtain ⟨x, i, y, z, rfl, hz, h, ok, ho, hl, okr, q⟩ := h
  show b_Hand_rename ca (endsD (frg R) EX) [some (.ref x.a), some (.int i), some (.str z), none] G
  unfold b_Hand_rename
  walk_at "hd"
  simp only [h.a, la_hosted, true_and]
  refine ⟨x, i, y, rfl, h, ho, hl, ?_⟩
  walk_at "hd"
  refine ⟨z, rfl, hz, ?_⟩
  walk_at "hd"
  have n1 : updD G y.r (.ins ca.Record (Rec.fs { y.rc with note := z })) y.h = some (.ins ca.Hosted y.fs) := by rw [updD_ne h.y.nh]; exact h.y.h
  simp only [h.y.h, lh_record, h.y.r, lk_grow, pf_note, fs_len, lt8, n1, updD_same, true_and]
  refine ⟨y.r, _, rfl, updD_same, ?_⟩
  have e : putR ca (updD G y.r (.ins ca.Record (Rec.fs { y.rc with note := z }))) y.r (Rec.grow { y.rc with note := z }) = putR ca G y.r (Rec.grow { y.rc with note := z }) := by
    unfold putR
    rw [updD_updD]
  rw [e]
  exact lack_of h ok okr (frg_of q)
theorem pure_Hand_call_off (ca : CA) (ds : List D) (G : DH) (R : DK) (EX : DX) (h : sd_Hand_call_off ca ds G R EX) : b_Hand_call_off ca (endsD (frg R) EX) (startD N_Hand_call_off ds) G := by
  obtain ⟨x, i, y, rfl, h, ok, ho, hl, okr, q⟩ := h
  show b_Hand_call_off ca (endsD (frg R) EX) [some (.ref x.a), some (.int i), none] G
  unfold b_Hand_call_off
  walk_at "hd"
  simp only [h.a, la_hosted, true_and]
  refine ⟨x, i, y, rfl, h, ho, hl, ?_⟩
  have n1 : updD G y.r (.ins ca.Record (Rec.fs { y.rc with over := true })) y.h = some (.ins ca.Hosted y.fs) := by rw [updD_ne h.y.nh]; exact h.y.h
  simp only [h.y.h, lh_record, h.y.r, lk_grow, pf_over, fs_len, lt8, n1, updD_same, true_and]
  refine ⟨y.r, _, rfl, updD_same, ?_⟩
  have e : putR ca (updD G y.r (.ins ca.Record (Rec.fs { y.rc with over := true }))) y.r (Rec.grow { y.rc with over := true }) = putR ca G y.r (Rec.grow { y.rc with over := true }) := by
    unfold putR
    rw [updD_updD]
  rw [e]
  exact lack_of h ok okr (frg_of q)
theorem flat_ints (l : List Int) : (l.map D.int).all D.flat = true := by
  rw [List.all_eq_true]
  intro d hd
  obtain ⟨x, _, rfl⟩ := List.mem_map.mp hd
  rfl
theorem in_ints {n : Int} (l : List Int) : inF (.int n) (l.map .int) = decide (n ∈ l) := by
  unfold inF
  rw [List.any_map, Bool.eq_iff_iff, List.any_eq_true, decide_eq_true_iff]
  refine ⟨fun ⟨x, hx, e⟩ => ?_, fun h => ⟨n, h, ?_⟩⟩
  · have e : eqF (.int x) (.int n) = true ∨ eqF (.int n) (.int x) = true := by first | exact .inl e | exact .inr e
    have : x = n := by
      rcases e with e | e <;> simp [eqF] at e <;> omega
    rw [← this]
    exact hx
  · simp [eqF]
theorem vin_ints {n : Int} {l : List Int} {G : DH} {R : DK} (q : R (.bl (decide (n ∈ l))) G) : dIn (.int n) (.rol (l.map .int)) G R := by
  unfold dIn inOf
  simp only [seqOf, D.flat, flat_ints, Bool.and_self, if_true, in_ints]
  exact q
theorem vnin_ints {n : Int} {l : List Int} {G : DH} {R : DK} (q : R (.bl (!decide (n ∈ l))) G) : dNotIn (.int n) (.rol (l.map .int)) G R := by
  unfold dNotIn inOf
  simp only [seqOf, D.flat, flat_ints, Bool.and_self, if_true, in_ints]
  exact q
theorem pure_Hand_uninvite (ca : CA) (ds : List D) (G : DH) (R : DK) (EX : DX) (h : sd_Hand_uninvite ca ds G R EX) : b_Hand_uninvite ca (endsD (frg R) EX) (startD N_Hand_uninvite ds) G := by
  obtain ⟨x, i, y, hand, rfl, h0, h7, hm, h, ok, ho, hl, q1, q2⟩ := h
  show b_Hand_uninvite ca (endsD (frg R) EX) [some (.ref x.a), some (.int i), some (.int hand), none] G
  unfold b_Hand_uninvite
  walk_at "hd"
  simp only [h.a, la_hosted, true_and]
  refine ⟨x, i, y, rfl, h, ho, hl, ?_⟩
  simp only [h.a, la_need_guest, true_and]
  refine ⟨x, hand, rfl, h.toBase, fun _ => ?_, fun z => absurd ⟨h0, h7, hm⟩ z⟩
  walk_at "hd"
  simp only [h.y.h, lh_record, h.y.r, lk_hands, true_and]
  refine ⟨y.r, y.rc, rfl, h.y.r, ok.rc, ?_⟩
  refine vnin_ints ?_
  walk_at "hd"
  by_cases hin : hand ∈ y.rc.hands
  · obtain ⟨okr, q⟩ := q1 hin
    simp only [hin, decide_true, Bool.not_true, Bool.false_eq_true, if_false]
    simp only [h.y.h, lh_record, h.y.r, lk_drop, true_and]
    refine ⟨y.r, y.rc, hand, rfl, h.y.r, ok.rc, ?_⟩
    exact lack_of h ok okr (frg_of q)
  · simp only [hin, decide_false, Bool.not_false, if_true]
    exact q2 hin
end Hd
/-! ### hands: invitations, meetings made -/
namespace Hd
open PySem PySem.Spec PyProof.Rows L2 Cc Pl
open PySem.W (EachIs AllAlike Sortable dataLe)
theorem pure_Hosted_take (ca : CA) (k : Nat) (ds : List D) (G : DH) (R : DK) (EX : DX) (h : sd_Hosted_take ca (k + 1) ds G R EX) : b_Hosted_take ca k (endsD (frg R) EX) (startD N_Hosted_take ds) G := by
  obtain ⟨x, hand, rfl, h, ok, he, hn, q⟩ := h
  show b_Hosted_take ca k (endsD (frg R) EX) [some (.ref x.h), some (.int hand), none] G
  have hhd := h.hd
  rw [he] at hhd
  unfold b_Hosted_take
  walk_at "hd"
  simp only [dGet2]
  walk_at "hd"
  simp only [h.h, lh_heard, true_and, isDict, hhd, getOf, D.ky, Option.map_some, kvI, List.map_nil]
  have el : lookK ([] : List (Key × D)) (Sum.inl hand) = none := rfl
  rw [el]
  simp only [Option.getD_none]
  walk_at "hd"
  simp only [h.h, lh_record, h.r, lk_say_of, true_and]
  refine ⟨x.r, x.rc, hand, rfl, h.r, ok, ?_⟩
  unfold Say.d
  walk_at "hd"
  rw [if_neg (by omega)]
  walk_at "hd"
  exact frg_of q
theorem any_keys (known : List (Int × Int)) (hand : Int) : (kvI D.int known).any (fun kv => decide (kv.1 = (Sum.inl hand : Key))) = known.any fun p => decide (p.1 = hand) := by
  unfold kvI
  rw [List.any_map]
  congr 1
  funext p
  show decide ((Sum.inl p.1 : Key) = Sum.inl hand) = decide (p.1 = hand)
  exact decide_eq_decide.mpr ⟨fun z => Sum.inl.inj z, fun z => by rw [z]⟩
theorem set_known {G : DH} {x : LH} {hand : Int} {R : DK} (hk : G x.kn = some (.dK (kvI .int x.known))) (few : x.known.length < 64)
    (q : ∀ d, R d (updD G x.kn (.dK (kvI .int (knows x.known hand))))) : ∃ a kvs k, (D.ref x.kn) = .ref a ∧ G a = some (.dK kvs) ∧ (D.int hand).ky = some k ∧ kvs.length < sizeLine ∧ (match lookK kvs k with
  | some v => R v G
  | none => R (.int 0) (updD G a (.dK (putD kvs k (.int 0))))) := by
  refine ⟨x.kn, _, Sum.inl hand, rfl, hk, rfl, by unfold kvI; rw [List.length_map, sizeLine_eq]; omega, ?_⟩
  unfold knows at q
  cases hl : lookK (kvI D.int x.known) (Sum.inl hand) with
  | some v =>
    have ha : (x.known.any fun p => decide (p.1 = hand)) = true := by
      unfold kvI at hl
      rw [look_map] at hl
      cases hf : x.known.find? fun p => decide (p.1 = hand) with
      | none => rw [hf] at hl; cases hl
      | some p => exact List.any_eq_true.mpr ⟨p, List.mem_of_find?_eq_some hf, by have := List.find?_some hf; exact this⟩
    have := q v
    rw [if_pos ha, updD_id hk] at this
    exact this
  | none =>
    have ha : (x.known.any fun p => decide (p.1 = hand)) = false := by
      unfold kvI at hl
      rw [look_map] at hl
      cases hf : x.known.find? fun p => decide (p.1 = hand) with
      | some p => rw [hf] at hl; cases hl
      | none =>
        have := List.find?_eq_none.mp hf
        rw [List.any_eq_false]
        exact this
    have e : putD (kvI D.int x.known) (Sum.inl hand) (.int 0) = kvI .int (x.known ++ [(hand, 0)]) := by
      unfold putD
      rw [any_keys, ha, if_neg Bool.false_ne_true]
      unfold kvI
      rw [List.map_append]
      rfl
    have := q (.int 0)
    rw [if_neg (by rw [ha]; exact Bool.false_ne_true)] at this
    dsimp only
    rw [e]
    exact this
theorem setd_known {ca : CA} {δ : DS} {G : DH} {x : LH} {hand : Int} {i j : Nat} {R : DK} {EX : DX} (h : HostAt ca G x) (few : x.known.length < 64) (hi : δ[i]? = some (some (.ref x.h))) (hj : δ[j]? = some (some (.int hand)))
    (q : ∀ d, R d (updD G x.kn (.dK (kvI .int (knows x.known hand))))) : dSetd (dFld ca.Hosted "known" (dVar i)) (dVar j) (dC (.int 0)) δ G R EX := by
  unfold dSetd dFld dVar dC
  simp only [hi, hj, h.h, lh_known, true_and]
  exact ⟨by unfold isDict; dsimp only; rw [h.kn]; trivial, set_known h.kn few q⟩
theorem HostAt.know {ca : CA} {G : DH} {x : LH} (h : HostAt ca G x) (l : List (Int × Int)) : HostAt ca (updD G x.kn (.dK (kvI .int l))) { x with known := l } :=
  ⟨by rw [updD_ne h.nhk]; exact h.h, by rw [updD_ne (Ne.symm h.nkn)]; exact h.r, by rw [updD_ne h.ne]; exact h.hd, updD_same, h.ne⟩
theorem find_app {α : Type} {p : α → Bool} {l : List α} {y : α} (h : ∀ x ∈ l, p x = false) (hy : p y = true) : (l ++ [y]).find? p = some y := by
  rw [List.find?_append]
  rw [List.find?_eq_none.mpr fun x hx => by rw [h x hx]; exact Bool.false_ne_true]
  simp [hy]
/-- what was added says nothing yet -/
theorem sayOf_add (r : Rec) (hand : Int) (b : Option Int) (s : Say) (hn : ((r.add hand b s).says.map (·.1)).Nodup) : (r.add hand b s).sayOf hand = s := by
  have hm : ((hand, s) : HSay) ∈ (r.add hand b s).says := by
    unfold Rec.add Rec.hear byH
    exact (List.mergeSort_perm _ _).mem_iff.mpr (List.mem_append_right _ (List.mem_singleton.mpr rfl))
  unfold Rec.sayOf
  generalize (r.add hand b s).says = l at hm hn
  induction l with
  | nil => cases hm
  | cons x xs ih =>
    rw [List.find?_cons]
    obtain ⟨h1, h2⟩ := List.nodup_cons.mp hn
    rcases List.mem_cons.mp hm with e | hm
    · rw [← e]
      simp
    · have : x.1 ≠ hand := fun e => h1 (List.mem_map.mpr ⟨_, hm, e.symm⟩)
      rw [decide_eq_false this]
      exact ih hm h2
theorem pure_Hosted_add (ca : CA) (k : Nat) (ds : List D) (G : DH) (R : DK) (EX : DX) (h : sd_Hosted_add ca (k + 2) ds G R EX) : b_Hosted_add ca (k + 1) (endsD (frg R) EX) (startD N_Hosted_add ds) G := by
  obtain ⟨x, hand, b, rfl, h, ok, okr, he, hin, q⟩ := h
  show b_Hosted_add ca (k + 1) (endsD (frg R) EX) [some (.ref x.h), some (.int hand), some (oD b)] G
  unfold b_Hosted_add
  walk_at "hd"
  simp only [h.h, lh_record, h.r, lk_hands, true_and]
  refine ⟨x.r, x.rc, rfl, h.r, ok.rc, ?_⟩
  refine vnin_ints ?_
  simp only [hin, decide_false, Bool.not_false, blD_bl, if_true]
  simp only [h.h, lh_record, h.r, lk_add, true_and]
  have g1 := ok.rc.guests
  have g2 := ok.rc.says
  refine ⟨x.r, x.rc, hand, b, nothing, rfl, h.r, by omega, by omega, ?_⟩
  have h' := h.put (x.rc.add hand b nothing)
  refine setd_known h' ok.few rfl rfl fun d => ?_
  have h2 := h'.know (knows x.known hand)
  have e2 := h2.h
  dsimp only at e2 ⊢
  rw [e2]
  refine ⟨rfl, rfl, { x with rc := x.rc.add hand b nothing, known := knows x.known hand }, hand, rfl, h2, okr, he, ?_, frg_of q⟩
  rw [sayOf_add _ _ _ _ okr.nd]
  decide
theorem pure_Hand_invite (ca : CA) (ds : List D) (G : DH) (R : DK) (EX : DX) (h : sd_Hand_invite ca ds G R EX) : b_Hand_invite ca (endsD (frg R) EX) (startD N_Hand_invite ds) G := by
  obtain ⟨x, i, y, hand, rfl, h0, h7, hm, h, ok, he, ho, hl, q1, q2⟩ := h
  show b_Hand_invite ca (endsD (frg R) EX) [some (.ref x.a), some (.int i), some (.int hand), none] G
  unfold b_Hand_invite
  walk_at "hd"
  simp only [h.a, la_hosted, true_and]
  refine ⟨x, i, y, rfl, h, ho, hl, ?_⟩
  simp only [h.a, la_need_guest, true_and]
  refine ⟨x, hand, rfl, h.toBase, fun _ => ?_, fun z => absurd ⟨h0, h7, hm⟩ z⟩
  walk_at "hd"
  simp only [h.y.h, lh_record, h.y.r, lk_hands, true_and]
  refine ⟨y.r, y.rc, rfl, h.y.r, ok.rc, ?_⟩
  refine vin_ints ?_
  walk_at "hd"
  by_cases hin : hand ∈ y.rc.hands
  · simp only [hin, decide_true, if_true]
    exact q2 hin
  · obtain ⟨okr, q⟩ := q1 hin
    simp only [hin, decide_false, Bool.false_eq_true, if_false]
    simp only [h.y.h, lh_add, true_and]
    refine ⟨y, hand, none, rfl, h.y, ok, okr.rc, he, hin, ?_⟩
    -- the hand's own cells stand
    have h1 := h.y.put (y.rc.add hand none nothing)
    have h2 := h1.know (knows y.known hand)
    have nk : ∀ {b c}, G b = some c → c ≠ .dK (kvI .int y.known) → c ≠ .ins ca.Record y.rc.fs → updD (putR ca G y.r (y.rc.add hand none nothing)) y.kn (.dK (kvI .int (knows y.known hand))) b = some c := fun {b c} hb c1 c2 => by
      rw [updD_ne (neDD hb h.y.kn c1), putR, updD_ne (neDD hb h.y.r c2)]
      exact hb
    have ha := nk h.a (fun z => by cases z) fun z => absurd (show (3 : Nat) = 8 from congrArg insLen z) (by decide)
    have hoo := nk h.o (fun z => by cases z) (fun z => by cases z)
    have hcc := nk h.c (fun z => by cases z) (fun z => by cases z)
    have hi : i < x.own.length := (List.getElem?_eq_some_iff.mp h.i).1
    dsimp only
    rw [ha]
    refine ⟨rfl, rfl, { x with own := x.own.set i (invited y hand) }, i, invited y hand, rfl, { a := ha, o := ?_, c := hcc, i := by rw [List.getElem?_set_self hi], y := h2 }, okr, frg_of q⟩
    show _ = some (C.lst ((x.own.set i (invited y hand)).map fun z => D.ref z.h))
    rw [set_refs (y' := invited y hand) h.i rfl]
    exact hoo
end Hd
/-! ### hands: makings -/
namespace Hd
open PySem PySem.Spec PyProof.Rows L2 Cc Pl
open PySem.W (EachIs AllAlike Sortable dataLe)
theorem upd3 {G : DH} {h hd kn : Addr} {a1 a2 a3 c1 c2 : C} : updD (updD (updD (updD (updD G h a1) hd c1) h a2) kn c2) h a3 = updD (updD (updD G hd c1) kn c2) h a3 := by
  funext b
  unfold updD
  by_cases b1 : b = h
  · simp [b1]
  · simp [b1]
theorem keyed_oft (p : Int × Int) : keyed (.tup [.int p.1, .int p.2]) = some (Sum.inl p.1, .int p.2) := rfl
theorem pure_Hosted__init_ (ca : CA) (ds : List D) (G : DH) (R : DK) (EX : DX) (h : sd_Hosted__init_ ca ds G R EX) : b_Hosted__init_ ca (endsD (frg R) EX) (startD N_Hosted__init_ ds) G := by
  obtain ⟨h, r, rc, rfl, hh, hr, ok, nd, q⟩ := h
  unfold RecAt at hr
  show b_Hosted__init_ ca (endsD (frg R) EX) [some (.ref h), some (.ref r), none] G
  have nrh : r ≠ h := neDD hr hh fun z => absurd (show (8 : Nat) = 0 from congrArg insLen z) (by decide)
  unfold b_Hosted__init_
  walk_at "hd"
  simp only [hh, true_and]
  refine ⟨(by decide : (0 : Nat) < 1000), fun hd hhd => ?_⟩
  obtain ⟨hhd0, nhd⟩ := none_up hhd
  simp only [updD_ne (Ne.symm nhd), updD_same, true_and]
  refine ⟨(by decide : (1 : Nat) < 1000), ?_⟩
  have hr3 : updD (updD (updD G h (.ins ca.Hosted (putFD "record" (.ref r) []))) hd (.dK [])) h (.ins ca.Hosted (putFD "heard" (.ref hd) (putFD "record" (.ref r) []))) r = some (.ins ca.Record rc.fs) := by
    rw [updD_ne nrh, updD_ne (fun z => by subst z; rw [hr] at hhd0; cases hhd0), updD_ne nrh]
    exact hr
  simp only [dLcF, iSq]
  walk_at "hd"
  simp only [hr3, lk_hands, true_and]
  refine ⟨r, rc, rfl, hr3, ok, ?_⟩
  dsimp only
  have hlen : rc.hands.length ≤ 100 := by unfold Rec.hands; rw [List.length_map]; exact ok.guests
  refine goLcF_map (ok := fun _ => True) (f := D.int) (fun x : Int => some (.tup [.int x, .int 0])) trivial (fun x C1 C2 hx => ?_) rc.hands [] (by simp; exact sz_small (by omega)) ?_
  · walk_at "hd"
    exact hx
  · rw [List.filterMap_eq_map', List.nil_append]
    have ekv : mergeD [] ((rc.hands.map fun x => ((x, 0) : Int × Int)).map fun p => ((Sum.inl p.1 : Key), D.int p.2)) = kvI .int (rc.hands.map fun x => (x, 0)) := by
      rw [mergeD_app _ [] (by
        rw [List.nil_append]
        refine nd_keys (f := D.int) ?_
        rw [List.map_map]
        exact (show (rc.hands.map fun x => x).Nodup from by rw [List.map_id']; exact nd)), List.nil_append]
      rfl
    refine ⟨rc.hands.map fun x => .tup [.int x, .int 0], (rc.hands.map fun x => ((x, 0) : Int × Int)).map fun p => (Sum.inl p.1, .int p.2), rfl, ?_, fun kn hkn => ?_⟩
    · rw [List.map_map, List.map_map, List.map_map]
      rfl
    · obtain ⟨hkn1, n1⟩ := none_up hkn
      obtain ⟨hkn2, n2⟩ := none_up hkn1
      obtain ⟨hkn3, n3⟩ := none_up hkn2
      rw [ekv]
      simp only [updD_ne (Ne.symm n1), updD_same, true_and]
      refine ⟨(by decide : (2 : Nat) < 1000), ?_⟩
      rw [upd3]
      exact frg_of (q hd kn hhd0 hkn3 (Ne.symm n2))
theorem pure_Hand__init_ (ca : CA) (ds : List D) (G : DH) (R : DK) (EX : DX) (h : sd_Hand__init_ ca ds G R EX) : b_Hand__init_ ca (endsD (frg R) EX) (startD N_Hand__init_ ds) G := by
  obtain ⟨a, n, rfl, h0, h7, ha, q⟩ := h
  show b_Hand__init_ ca (endsD (frg R) EX) [some (.ref a), some (.int n)] G
  unfold b_Hand__init_
  walk_at "hd"
  refine ⟨n, rfl, fun _ => ?_, fun z => absurd ⟨h0, h7⟩ z⟩
  simp only [ha, updD_same, updD_updD, true_and]
  refine ⟨(by decide : (0 : Nat) < 1000), fun o ho => ?_⟩
  obtain ⟨ho0, no⟩ := none_up ho
  simp only [updD_ne (Ne.symm no), updD_same, true_and]
  refine ⟨(by decide : (1 : Nat) < 1000), ?_⟩
  simp only [dNewT]
  intro c hc
  obtain ⟨hc1, n1⟩ := none_up hc
  obtain ⟨hc2, n2⟩ := none_up hc1
  obtain ⟨hc3, n3⟩ := none_up hc2
  simp only [updD_ne (Ne.symm n1), updD_same, true_and]
  refine ⟨(by decide : (2 : Nat) < 1000), ?_⟩
  rw [upd3]
  exact frg_of (q o c ho0 hc3 (Ne.symm n2))
end Hd
/-! ### hands: a call -/
namespace Hd
open PySem PySem.Spec PyProof.Rows L2 Cc Pl
open PySem.W (EachIs AllAlike Sortable dataLe)
theorem upd4 {G : DH} {h hd kn : Addr} {a1 a3 c1 c2 : C} : updD (updD (updD (updD G h a1) hd c1) kn c2) h a3 = updD (updD (updD G hd c1) kn c2) h a3 := by
  funext b
  unfold updD
  by_cases b1 : b = h
  · simp [b1]
  · simp [b1]
theorem first_ok {p : Plan} {gs : List Int} (hp : p.Ok) (hl : gs.length ≤ 6) : (first p gs).Ok :=
  ⟨hp, Nat.zero_le _, by unfold first sortI; rw [List.length_map, List.length_mergeSort]; omega, Nat.zero_le _, List.nodup_nil, fun s hs => by cases hs⟩
theorem first_hands (p : Plan) (gs : List Int) : (first p gs).hands = sortI gs := by
  unfold Rec.hands first
  rw [List.map_map]
  exact List.map_id' _
theorem first_nd {p : Plan} {gs : List Int} (h : gs.Nodup) : (first p gs).hands.Nodup := by
  rw [first_hands]
  exact (List.mergeSort_perm _ _).nodup_iff.mpr h
theorem pure_Hand_call (ca : CA) (ds : List D) (G : DH) (R : DK) (EX : DX) (h : sd_Hand_call ca ds G R EX) : b_Hand_call ca (endsD (frg R) EX) (startD N_Hand_call ds) G := by
  obtain ⟨x, p, gs, rfl, hb, hp, nd, hl, hg, hown, q⟩ := h
  show b_Hand_call ca (endsD (frg R) EX) [some (.ref x.a), some p.d, some (.tup (gs.map .int)), none] G
  unfold b_Hand_call
  walk_at "hd"
  refine ⟨p.ds, rfl, fun y hy => ?_, fun _ => ?_, fun z => by rw [isPlan_ok hp] at z; cases z⟩
  · unfold Plan.ds at hy
    simp only [List.mem_cons, List.not_mem_nil, or_false] at hy
    rcases hy with rfl | rfl | rfl | rfl <;> exact .int _
  simp only [sFor, iSq]
  walk_at "hd"
  refine goFor_map (f := D.int) (fun xs δ G' => (∃ o3 : Option D, δ = [some (.ref x.a), some p.d, some (.tup (gs.map .int)), o3]) ∧ G' = G ∧ ∀ y ∈ xs, y ∈ gs)
    (fun _ _ _ _ => trivial) (fun δ G' ⟨⟨o3, e⟩, eG, _⟩ => ?_) (fun y xs δ G' N ⟨⟨o3, e⟩, eG, hy⟩ hN => ?_) gs _ _ ⟨⟨_, rfl⟩, rfl, fun _ h => h⟩
  · subst e eG
    walk_at "hd"
    rw [List.length_map]
    rw [if_neg (by omega)]
    simp only [dLenSet]
    walk_at "hd"
    refine ⟨gs, rfl, by omega, fun c hc => ?_⟩
    rw [hc.of_nodup nd]
    walk_at "hd"
    try rw [List.length_map]
    rw [if_neg (by omega)]
    walk_at "hd"
    simp only [hb.a, la_own, true_and]
    refine ⟨by unfold tyR; dsimp only; rw [hb.o], ?_⟩
    refine ⟨p, gs, rfl, by omega, fun r hr => ?_⟩
    intro h hh
    obtain ⟨hh0, nhr⟩ := none_up hh
    have okf := first_ok (p := p) hp hl
    refine ⟨h, r, first p gs, rfl, updD_same, by unfold RecAt; rw [updD_ne (Ne.symm nhr)]; exact updD_same, okf, first_nd nd, fun hd kn hhd hkn ndk => ?_⟩
    obtain ⟨hhd1, nhdh⟩ := none_up hhd
    obtain ⟨hhd0, nhdr⟩ := none_up hhd1
    obtain ⟨hkn1, nknh⟩ := none_up hkn
    obtain ⟨hkn0, nknr⟩ := none_up hkn1
    have q := q h r hd kn hh0 hr hhd0 hkn0 nhr (Ne.symm nhdh) (Ne.symm nknh) (Ne.symm nhdr) (Ne.symm nknr) ndk
    have eH : updD (updD (updD (updD (putR ca G' r (first p gs)) h (.ins ca.Hosted [])) hd (.dK [])) kn (.dK (kvI .int ((first p gs).hands.map fun x => (x, 0))))) h (.ins ca.Hosted [("record", .ref r), ("heard", .ref hd), ("known", .ref kn)]) = putH ca G' (called h r hd kn p gs) := upd4
    dsimp only
    rw [eH]
    -- what stood still stands
    have keep : ∀ {b c}, G' b = some c → putH ca G' (called h r hd kn p gs) b = some c := fun {b c} hbc => by
      have n1 : b ≠ h := neD hbc hh0
      have n2 : b ≠ kn := neD hbc hkn0
      have n3 : b ≠ hd := neD hbc hhd0
      have n4 : b ≠ r := neD hbc hr
      unfold putH called
      rw [updD_ne n1, updD_ne n2, updD_ne n3, updD_ne n4]
      exact hbc
    have ho := keep hb.o
    simp only [mAppend]
    refine ⟨_, ho, by rw [List.length_map, sizeLine_eq]; omega, ?_⟩
    generalize eL : (x.own.map fun y => D.ref y.h) ++ [D.ref h] = L at q ⊢
    have hLl : L.length = x.own.length + 1 := by rw [← eL, List.length_append, List.length_map]; rfl
    have nao : x.a ≠ x.o := neDD hb.a hb.o fun z => by cases z
    have nco : x.c ≠ x.o := neDD hb.c hb.o fun z => by cases z
    have ha2 : updD (putH ca G' (called h r hd kn p gs)) x.o (.lst L) x.a = some (.ins ca.Hand x.fs) := by rw [updD_ne nao]; exact keep hb.a
    simp only [ha2, la_own, la_lacking, true_and]
    have hlen : ∀ R : DK, R (.int ((x.own.length + 1 : Nat) : Int)) (updD (putH ca G' (called h r hd kn p gs)) x.o (.lst L)) → dLen [.ref x.o] (updD (putH ca G' (called h r hd kn p gs)) x.o (.lst L)) R := fun R q => by
      unfold dLen lenOf
      dsimp only
      rw [updD_same]
      dsimp only
      rw [hLl]
      exact q
    refine hlen _ ?_
    walk_at "hd"
    have e1 : ((x.own.length + 1 : Nat) : Int) - 1 = (x.own.length : Int) := by omega
    rw [e1]
    simp only [ha2, la_own, la_lacking, true_and]
    refine hlen _ ?_
    walk_at "hd"
    rw [e1]
    have nh : ∀ {b}, b ≠ x.o → updD (putH ca G' (called h r hd kn p gs)) x.o (.lst L) b = putH ca G' (called h r hd kn p gs) b := fun n => updD_ne n
    have noh : x.o ≠ h := neD hb.o hh0
    have nor : x.o ≠ r := neD hb.o hr
    have nohd : x.o ≠ hd := neD hb.o hhd0
    have nokn : x.o ≠ kn := neD hb.o hkn0
    refine ⟨{ x with own := x.own ++ [called h r hd kn p gs] }, x.own.length, called h r hd kn p gs, rfl, { a := ha2, o := ?_, c := ?_, i := by simp, y := ⟨?_, ?_, ?_, ?_, ndk⟩ }, ⟨okf, ?_, ?_⟩, frg_of q⟩
    · rw [updD_same, ← eL, List.map_append]
      rfl
    · rw [nh nco]
      exact keep hb.c
    · show updD _ x.o _ h = _
      rw [nh (Ne.symm noh)]
      exact updD_same
    · show updD _ x.o _ r = _
      rw [nh (Ne.symm nor)]
      unfold putH called
      dsimp only
      rw [updD_ne (Ne.symm nhr), updD_ne (Ne.symm nknr), updD_ne (Ne.symm nhdr), updD_same]
    · show updD _ x.o _ hd = _
      rw [nh (Ne.symm nohd)]
      unfold putH called
      dsimp only
      rw [updD_ne nhdh, updD_ne ndk, updD_same]
    · show updD _ x.o _ kn = _
      rw [nh (Ne.symm nokn)]
      unfold putH called
      dsimp only
      rw [updD_ne nknh, updD_same]
    · show (((first p gs).hands.map fun z => ((z, 0) : Int × Int)).map (·.1)).Nodup
      rw [List.map_map]
      exact (show ((first p gs).hands.map fun x => x).Nodup from by rw [List.map_id']; exact first_nd nd)
    · show ((first p gs).hands.map fun z => ((z, 0) : Int × Int)).length < 64
      rw [List.length_map, first_hands]
      unfold sortI
      rw [List.length_mergeSort]
      omega
  · subst e eG
    walk_at "hd"
    simp only [hb.a, la_need_guest, true_and]
    refine ⟨x, y, rfl, hb, fun _ => ?_, fun z => absurd (hg y (hy y List.mem_cons_self)) z⟩
    exact hN _ _ ⟨⟨_, rfl⟩, rfl, fun z hz => hy z (List.mem_cons_of_mem _ hz)⟩
end Hd
/-! ### hands: promises, lists told as lists -/
namespace Hd
open PySem PySem.Spec PyProof.Rows L2 Cc Pl
open PySem.W (EachIs AllAlike Sortable dataLe)
def Told.dr (t : Told) (q p : Addr) : D := .tup [.int t.host, .int t.number, .int t.version, .str t.note, .int t.long, .ref q, .ref p]
/-- a row of a book, its two lists new -/
def TAt (G0 G : DH) (d : D) (t : Told) : Prop := ∃ q p, d = t.dr q p ∧ G0 q = none ∧ G0 p = none ∧ G q = some (.lst (t.rows.map Pl.Row.d)) ∧ G p = some (.lst (t.guests.map ToldG.d))
def sd_Record_rows' (ca : CA) : SpD := fun ds G R _ => ∃ a r, ds = [.ref a] ∧ RecAt ca G a r ∧ r.Ok ∧ ∀ q, G q = none → R (.ref q) (updD G q (.lst ((Pl.rowsOf r.plan r.ones).map Pl.Row.d)))
def sd_Record_told' (ca : CA) : SpD := fun ds G R _ => ∃ a r host number me mine, ds = [.ref a, .int host, .int number, oD me, mine.d] ∧ RecAt ca G a r ∧ r.Ok ∧ mine.Ok ∧
  ∀ p q, G p = none → G q = none → q ≠ p → R ((r.told host number me mine).dr q p) (updD (updD G p (.lst ((r.told host number me mine).guests.map ToldG.d))) q (.lst ((r.told host number me mine).rows.map Pl.Row.d)))
/-- the hand's own meetings, as its book tells them -/
def ownTold (me : Int) : Nat → List LH → List Told
  | _, [] => []
  | i, y :: ys => if y.rc.over = true then ownTold me (i + 1) ys else y.rc.told me i none nothing :: ownTold me (i + 1) ys
def sd_Hand_book' (ca : CA) : SpD := fun ds G R _ => ∃ x : LHand, ds = [.ref x.a] ∧ Base ca G x ∧ x.calls = [] ∧ (∀ y ∈ x.own, HostAt ca G y ∧ y.rc.Ok) ∧ x.own.length ≤ 1000 ∧
  ∀ G' b rows, Sub G G' → G b = none → G' b = some (.lst rows) → EachIs (TAt G G') rows (ownTold x.me 0 x.own) → R (.ref b) G'
end Hd
/-! ### hands: readings, lists told as lists -/
namespace Hd
open PySem PySem.Spec PyProof.Rows L2 Cc Pl
def b_Record_rows' (ca : CA) : DSt :=
  (sRet (dCall Pl.sd_rows_of' (dCons (dFld ca.Record "plan" (dVar 0)) (dCons (dFld ca.Record "ones" (dVar 0)) dNil))))
def b_Record_told' (ca : CA) : DSt :=
  (sSeq (sAsg (dLst dNil) (gN 5))
  (sSeq (sFor (iSq (dFld ca.Record "guests" (dVar 0))) (gT 2 (gsCons (gN 6) (gsCons (gN 7) gsNil))) (sSeq (sAsg (dIf (dTest (dOp dEq (dVar 6) (dVar 3))) (dVar 4) (dMeth ca.Record "say_of" (sd_Record_say_of ca) (dVar 0) (dCons (dVar 6) dNil))) (gN 8))
  (sDrop (dBM "list" mAppend (dVar 5) (dCons (dTup (dCons (dVar 6) (dCons (dVar 7) (dCons (dCall sd_words_of (dCons (dVar 8) (dCons (dFld ca.Record "version" (dVar 0)) (dCons (dFld ca.Record "ones" (dVar 0)) (dCons (dOp dIx (dFld ca.Record "plan" (dVar 0)) (dC (.int 3))) dNil))))) dNil)))) dNil)))))
  (sRet (dTup (dCons (dVar 1) (dCons (dVar 2) (dCons (dFld ca.Record "version" (dVar 0)) (dCons (dFld ca.Record "note" (dVar 0)) (dCons (dOp dIx (dFld ca.Record "plan" (dVar 0)) (dC (.int 1))) (dCons (dMeth ca.Record "rows" (sd_Record_rows' ca) (dVar 0) dNil) (dCons (dVar 5) dNil)))))))))))
def b_Hand_book' (ca : CA) : DSt :=
  (sSeq (sAsg (dLst dNil) (gN 1))
  (sSeq (sFor (iEnumD (dFld ca.Hand "own" (dVar 0))) (gT 2 (gsCons (gN 2) (gsCons (gN 3) gsNil))) (sIf (dNot (dTest (dFld ca.Record "over" (dFld ca.Hosted "record" (dVar 3))))) (sDrop (dBM "list" mAppend (dVar 1) (dCons (dMeth ca.Record "told" (sd_Record_told' ca) (dFld ca.Hosted "record" (dVar 3)) (dCons (dFld ca.Hand "me" (dVar 0)) (dCons (dVar 2) (dCons (dC .non) (dCons (dC (.tup [(.int 0), .non, (.tup []), .non])) dNil))))) dNil))) sNext))
  (sSeq (sFor (iSq (dCB dSortDT (dCons (dFld ca.Hand "calls" (dVar 0)) dNil))) (gT 2 (gsCons (gN 4) (gsCons (gN 2) gsNil))) (sSeq (sAsg (dOp dIx (dFld ca.Hand "calls" (dVar 0)) (dKey (dCons (dVar 4) (dCons (dVar 2) dNil)))) (gN 5))
  (sIf (dAnd (dTest (dOp dNotN (dFld ca.Record "record" (dVar 5)) (dC .non))) (dAnd (dNot (dTest (dFld ca.Record "over" (dFld ca.Record "record" (dVar 5))))) (dTest (dOp dIn (dFld ca.Hand "me" (dVar 0)) (dMeth ca.Record "hands" (sd_Record_hands ca) (dFld ca.Record "record" (dVar 5)) dNil))))) (sDrop (dBM "list" mAppend (dVar 1) (dCons (dMeth ca.Record "told" (sd_Record_told' ca) (dFld ca.Record "record" (dVar 5)) (dCons (dVar 4) (dCons (dVar 2) (dCons (dFld ca.Hand "me" (dVar 0)) (dCons (dFld ca.Record "say" (dVar 5)) dNil))))) dNil))) sNext)))
  (sRet (dSortG encII kII (dVar 1))))))
end Hd
/-! ### hands: the book, its lists told as lists -/
namespace Hd
open PySem PySem.Spec PyProof.Rows L2 Cc Pl
open PySem.W (EachIs AllAlike Sortable dataLe)
theorem pure_Record_rows' (ca : CA) (ds : List D) (G : DH) (R : DK) (EX : DX) (h : sd_Record_rows' ca ds G R EX) : b_Record_rows' ca (endsD (frg R) EX) (startD N_Record_rows ds) G := by
  obtain ⟨a, r, rfl, h, ok, q⟩ := h
  show b_Record_rows' ca (endsD (frg R) EX) [some (.ref a)] G
  unfold RecAt at h
  unfold b_Record_rows'
  walk_at "hd"
  simp only [h, lk_plan, lk_ones, true_and]
  have m0 := ok.plan.m0
  have m1 := ok.plan.m1
  exact ⟨r.plan, r.ones, rfl, by omega, by omega, fun a ha => frg_of (q a ha)⟩
theorem told_eq' (ca : CA) : b_Record_told' ca = (sSeq (sAsg (dLst dNil) (gN 5))
  (sSeq (sFor (iSq (dFld ca.Record "guests" (dVar 0))) (gT 2 (gsCons (gN 6) (gsCons (gN 7) gsNil))) (sSeq (sAsg (dIf (dTest (dOp dEq (dVar 6) (dVar 3))) (dVar 4) (dMeth ca.Record "say_of" (sd_Record_say_of ca) (dVar 0) (dCons (dVar 6) dNil))) (gN 8)) (tellS ca)))
  (sRet (dTup (dCons (dVar 1) (dCons (dVar 2) (dCons (dFld ca.Record "version" (dVar 0)) (dCons (dFld ca.Record "note" (dVar 0)) (dCons (dOp dIx (dFld ca.Record "plan" (dVar 0)) (dC (.int 1))) (dCons (dMeth ca.Record "rows" (sd_Record_rows' ca) (dVar 0) dNil) (dCons (dVar 5) dNil))))))))))) := rfl
theorem pure_Record_told' (ca : CA) (ds : List D) (G : DH) (R : DK) (EX : DX) (h : sd_Record_told' ca ds G R EX) : b_Record_told' ca (endsD (frg R) EX) (startD N_Record_told ds) G := by
  obtain ⟨a, r, host, number, me, mine, rfl, h, ok, okm, q⟩ := h
  show b_Record_told' ca (endsD (frg R) EX) [some (.ref a), some (.int host), some (.int number), some (oD me), some mine.d, none, none, none, none] G
  unfold RecAt at h
  have m0 := ok.plan.m0
  have m1 := ok.plan.m1
  have hg := ok.guests
  rw [told_eq']
  walk_at "hd"
  intro p hp
  have nap : a ≠ p := fun z => by subst z; rw [h] at hp; cases hp
  have hga : ∀ c, updD G p c a = some (.ins ca.Record r.fs) := fun c => by rw [updD_ne nap]; exact h
  simp only [sFor, iSq]
  walk_at "hd"
  simp only [hga, true_and]
  walk_at "hd"
  refine goFor_map (f := guestD) (fun xs δ G' => (∃ o6 o7 o8 : Option D, δ = [some (.ref a), some (.int host), some (.int number), some (oD me), some mine.d, some (.ref p), o6, o7, o8]) ∧ ∃ pre, pre ++ xs = r.guests ∧ G' = updD G p (.lst ((pre.map fun g : Guest => (⟨g.1, g.2, wordsOf (if some g.1 = me then mine else r.sayOf g.1) r.version r.ones r.plan.m⟩ : ToldG)).map ToldG.d)))
    (fun _ _ _ _ => trivial) (fun δ G' ⟨⟨o6, o7, o8, e⟩, pre, ep, eG⟩ => ?_) (fun g xs δ G' N ⟨⟨o6, o7, o8, e⟩, pre, ep, eG⟩ hN => ?_) _ _ _ ⟨⟨_, _, _, rfl⟩, [], rfl, rfl⟩
  · subst e eG
    rw [List.append_nil] at ep
    subst ep
    dsimp only
    walk_at "hd"
    simp only [hga, lk_version, lk_note, lk_plan, lk_rows, true_and]
    walk_at "hd"
    simp only [hga, lk_rows, true_and]
    refine ⟨a, r, rfl, hga _, ok, fun z hz => ?_⟩
    obtain ⟨hz0, nzp⟩ := none_up hz
    exact frg_of (q p z hp hz0 nzp)
  · subst e eG
    have hlen := congrArg List.length ep
    rw [List.length_append, List.length_cons] at hlen
    have nx : ∀ o8, N [some (.ref a), some (.int host), some (.int number), some (oD me), some mine.d, some (.ref p), some (.int g.1), some (oD g.2), o8] (updD G p (.lst (((pre ++ [g]).map fun g : Guest => (⟨g.1, g.2, wordsOf (if some g.1 = me then mine else r.sayOf g.1) r.version r.ones r.plan.m⟩ : ToldG)).map ToldG.d))) := fun o8 =>
      hN _ _ ⟨⟨_, _, _, rfl⟩, pre ++ [g], by rw [List.append_assoc]; exact ep, rfl⟩
    rw [toldG_snoc] at nx
    have tail : ∀ s : Say, s.Ok → s = (if some g.1 = me then mine else r.sayOf g.1) → tellS ca ⟨N, (endsD (frg R) EX).rt, (endsD (frg R) EX).bk, (endsD (frg R) EX).ct, (endsD (frg R) EX).ex⟩ [some (.ref a), some (.int host), some (.int number), some (oD me), some mine.d, some (.ref p), some (.int g.1), some (oD g.2), some s.d] (updD G p (.lst ((pre.map fun g : Guest => (⟨g.1, g.2, wordsOf (if some g.1 = me then mine else r.sayOf g.1) r.version r.ones r.plan.m⟩ : ToldG)).map ToldG.d))) := fun s oks es => by
      unfold tellS
      walk_at "hd"
      simp only [hga, true_and]
      walk_at "hd"
      refine ⟨s, r.version, r.ones, r.plan.m, rfl, oks, by omega, by omega, ?_⟩
      walk_at "hd"
      refine ⟨by rw [List.length_map, List.length_map, sizeLine_eq]; omega, ?_⟩
      subst es
      exact nx _
    unfold guestD
    walk_at "hd"
    refine veq_oD ?_
    by_cases hm : some g.1 = me
    · simp only [hm, decide_true, blD_bl, if_true]
      exact tail mine okm (by rw [if_pos hm])
    · simp only [hm, decide_false, blD_bl, Bool.false_eq_true, if_false, hga, lk_say_of, true_and]
      refine ⟨a, r, g.1, rfl, hga _, ok, ?_⟩
      exact tail _ (sayOf_ok ok _) (by rw [if_neg hm])
theorem nothing_ok : nothing.Ok := ⟨(fun v os w e => by cases e), Nat.zero_le _⟩
theorem HostAt.sub {ca : CA} {G G' : DH} {y : LH} (s : Sub G G') (h : HostAt ca G y) : HostAt ca G' y := ⟨s _ _ h.h, s _ _ h.r, s _ _ h.hd, s _ _ h.kn, h.ne⟩
theorem Base.sub {ca : CA} {G G' : DH} {x : LHand} (s : Sub G G') (h : Base ca G x) : Base ca G' x := ⟨s _ _ h.a, s _ _ h.o, s _ _ h.c⟩
theorem TAt.sub {G0 G G' : DH} (s : Sub G G') {d : D} {t : Told} (h : TAt G0 G d t) : TAt G0 G' d t := by
  obtain ⟨q, p, e, q0, p0, h1, h2⟩ := h
  exact ⟨q, p, e, q0, p0, s _ _ h1, s _ _ h2⟩
theorem ownTold_cons (me : Int) (i : Nat) (y : LH) (ys : List LH) : ownTold me i (y :: ys) = if y.rc.over = true then ownTold me (i + 1) ys else y.rc.told me i none nothing :: ownTold me (i + 1) ys := rfl
theorem ownTold_app (me : Int) : ∀ (l l' : List LH) (i : Nat), ownTold me i (l ++ l') = ownTold me i l ++ ownTold me (i + l.length) l'
  | [], l', i => rfl
  | y :: l, l', i => by
    have ih := ownTold_app me l l' (i + 1)
    rw [List.cons_append, ownTold_cons, ownTold_cons, ih, List.length_cons, show i + 1 + l.length = i + (l.length + 1) by omega]
    split <;> rfl
theorem ownTold_len (me : Int) : ∀ (l : List LH) (i : Nat), (ownTold me i l).length ≤ l.length
  | [], _ => Nat.le_refl _
  | y :: l, i => by
    have ih := ownTold_len me l (i + 1)
    unfold ownTold
    split
    · rw [List.length_cons]; omega
    · rw [List.length_cons, List.length_cons]; omega
theorem ownTold_keys (me : Int) : ∀ (l : List LH) (i : Nat), (∀ t ∈ ownTold me i l, t.host = me ∧ (i : Int) ≤ t.number) ∧ (ownTold me i l).Pairwise (fun a b => a.number < b.number)
  | [], _ => ⟨(fun _ h => by cases h), .nil⟩
  | y :: l, i => by
    obtain ⟨h1, h2⟩ := ownTold_keys me l (i + 1)
    unfold ownTold
    split
    · exact ⟨fun t ht => ⟨(h1 t ht).1, by have := (h1 t ht).2; omega⟩, h2⟩
    · refine ⟨fun t ht => ?_, List.pairwise_cons.mpr ⟨fun t ht => ?_, h2⟩⟩
      · rcases List.mem_cons.mp ht with rfl | ht
        · exact ⟨rfl, Int.le_refl _⟩
        · exact ⟨(h1 t ht).1, by have := (h1 t ht).2; omega⟩
      · have := (h1 t ht).2
        show ((i : Nat) : Int) < t.number
        omega
theorem le_num {me a b : Int} (h : a < b) : dataLe false encII (me, a) (me, b) = true := by
  show (!PySem.W.dataLt (encII (me, b)) (encII (me, a))) = true
  unfold encII
  rw [PySem.W.dataLt_tuple, PySem.W.dataLt_cons (by simp [PySem.W.alike])]
  simp only [PyData.eqv, beq_self_eq_true, if_true]
  rw [PySem.W.dataLt_cons (by simp [PySem.W.alike])]
  simp only [PyData.eqv, beq_iff_eq]
  rw [if_neg (by omega), PySem.W.dataLt_int]
  simp
  omega
theorem told_keys {G0 G : DH} : ∀ {rows : List D} {ts : List Told}, EachIs (TAt G0 G) rows ts → rows.map kII = (ts.map fun t => (t.host, t.number)).map some
  | _, _, .nil => rfl
  | _, _, .cons hd ht => by
    obtain ⟨q, p, e, _⟩ := hd
    rw [List.map_cons, List.map_cons, List.map_cons, told_keys ht, e]
    rfl
theorem each_snoc {α β : Type} {P : α → β → Prop} : ∀ {as : List α} {bs : List β} {a : α} {b : β}, EachIs P as bs → P a b → EachIs P (as ++ [a]) (bs ++ [b])
  | _, _, _, _, .nil, h => .cons h .nil
  | _, _, _, _, .cons h t, h' => .cons h (each_snoc t h')
theorem told_sorted {G0 G : DH} : ∀ {rows : List D} {ts : List Told} {me : Int}, EachIs (TAt G0 G) rows ts → (∀ t ∈ ts, t.host = me) → ts.Pairwise (fun a b => a.number < b.number) → sortG encII rows (ts.map fun t => (t.host, t.number)) = rows := fun {rows ts me} h hm hp => by
  unfold sortG
  have hz : (rows.zip (ts.map fun t => (t.host, t.number))).Pairwise fun a b => dataLe false (fun b : D × (Int × Int) => encII b.2) a b = true := by
    induction h with
    | nil => exact .nil
    | @cons d t ds ts hd ht ih =>
      obtain ⟨p1, p2⟩ := List.pairwise_cons.mp hp
      rw [List.map_cons, List.zip_cons_cons]
      refine List.pairwise_cons.mpr ⟨fun x hx => ?_, ih (fun t ht => hm t (List.mem_cons_of_mem _ ht)) p2⟩
      have hx2 := (List.of_mem_zip hx).2
      obtain ⟨u, hu, e⟩ := List.mem_map.mp hx2
      show dataLe false encII (t.host, t.number) x.2 = true
      rw [← e, hm t List.mem_cons_self, hm u (List.mem_cons_of_mem _ hu)]
      exact le_num (p1 u hu)
  have hl : rows.length = ts.length := h.length
  have e : (rows.zip (ts.map fun t => (t.host, t.number))).mergeSort (dataLe false fun b : D × (Int × Int) => encII b.2) = rows.zip (ts.map fun t => (t.host, t.number)) := List.mergeSort_of_pairwise hz
  rw [e]
  exact List.map_fst_zip (by rw [List.length_map]; omega)
def bookB (ca : CA) : DSt := (sIf (dNot (dTest (dFld ca.Record "over" (dFld ca.Hosted "record" (dVar 3))))) (sDrop (dBM "list" mAppend (dVar 1) (dCons (dMeth ca.Record "told" (sd_Record_told' ca) (dFld ca.Hosted "record" (dVar 3)) (dCons (dFld ca.Hand "me" (dVar 0)) (dCons (dVar 2) (dCons (dC .non) (dCons (dC (.tup [(.int 0), .non, (.tup []), .non])) dNil))))) dNil))) sNext)
theorem enum_map {α : Type} (f : α → D) (l : List α) : enumD (l.map f) = (List.range l.length).map fun i => .tup [.int (i : Nat), (l.map f).getD i .non] := by
  unfold enumD
  rw [List.length_map]
theorem pure_Hand_book' (ca : CA) (ds : List D) (G : DH) (R : DK) (EX : DX) (h : sd_Hand_book' ca ds G R EX) : b_Hand_book' ca (endsD (frg R) EX) (startD N_Hand_book ds) G := by
  obtain ⟨x, rfl, hb, hc, hy, hl, q⟩ := h
  show b_Hand_book' ca (endsD (frg R) EX) [some (.ref x.a), none, none, none, none, none] G
  unfold b_Hand_book'
  walk_at "hd"
  intro f hf
  have hfa : updD G f (.lst []) x.a = some (.ins ca.Hand x.fs) := by rw [updD_ne (neD hb.a hf)]; exact hb.a
  simp only [sFor, iEnumD]
  walk_at "hd"
  simp only [hfa, la_own, true_and]
  have hfo : updD G f (.lst []) x.o = some (.lst (x.own.map fun y => .ref y.h)) := by rw [updD_ne (neD hb.o hf)]; exact hb.o
  refine ⟨_, hfo, ?_⟩
  rw [enum_map]
  refine goFor_map (f := fun i : Nat => D.tup [.int (i : Nat), (x.own.map fun y => D.ref y.h).getD i .non]) (fun xs δ G' => (∃ o2 o3 o4 o5 : Option D, δ = [some (.ref x.a), some (.ref f), o2, o3, o4, o5]) ∧ ∃ (n : Nat) (rows : List D), xs = (List.range x.own.length).drop n ∧ n ≤ x.own.length ∧ Sub G G' ∧ G' f = some (.lst rows) ∧ EachIs (TAt (updD G f (.lst [])) G') rows (ownTold x.me 0 (x.own.take n)))
    (fun xs δ G' ⟨_, n, rows, _, _, s, _, _⟩ => s _ _ hb.o) (fun δ G' ⟨⟨o2, o3, o4, o5, e⟩, n, rows, en, hn, s, hfr, ea⟩ => ?_) (fun i xs δ G' N ⟨⟨o2, o3, o4, o5, e⟩, n, rows, en, hn, s, hfr, ea⟩ hN => ?_) (List.range x.own.length) _ _ ⟨⟨_, _, _, _, rfl⟩, 0, [], rfl, Nat.zero_le _, Sub.new hf, updD_same, .nil⟩
  · subst e
    have hn2 : n = x.own.length := by
      have := congrArg List.length en
      rw [List.length_drop, List.length_range, List.length_nil] at this
      omega
    subst hn2
    rw [List.take_length] at ea
    dsimp only
    walk_at "hd"
    have ha' : G' x.a = some (.ins ca.Hand x.fs) := s _ _ hb.a
    have hc' : G' x.c = some (.dT []) := by
      have := s _ _ hb.c
      rw [hc] at this
      exact this
    simp only [sFor, iSq]
    walk_at "hd"
    simp only [ha', la_calls, true_and]
    refine ⟨[], by unfold dictTOf; dsimp only; rw [hc'], ?_, .inl (fun d hd => by cases hd), ?_⟩
    · first | exact fun x hx => by cases hx | exact AllAlike.of fun x y => encI_alike x y
    have e0 : (sortK (([] : List (List Key × D)).map (·.1))).map D.key = [] := by simp [sortK]
    rw [e0]
    refine ⟨trivial, ?_⟩
    walk_at "hd"
    simp only [dSortG]
    walk_at "hd"
    have ea' : EachIs (TAt G G') rows (ownTold x.me 0 x.own) := ea.mono fun d t ⟨q, p, e, q0, p0, h1, h2⟩ => ⟨q, p, e, (none_up q0).1, (none_up p0).1, h1, h2⟩
    obtain ⟨k1, k2⟩ := ownTold_keys x.me x.own 0
    have hlen := ownTold_len x.me x.own 0
    refine ⟨rows, (ownTold x.me 0 x.own).map fun t => (t.host, t.number), hfr, ?_, by rw [ea.length, sizeLine_eq]; omega, fun b hbn => ?_⟩
    · exact told_keys ea'
    · rw [told_sorted ea' (fun t ht => (k1 t ht).1) k2]
      have hbG : G b = none := by
        cases hg : G b with
        | none => rfl
        | some c => rw [s _ _ hg] at hbn; cases hbn
      refine frg_of (q _ b rows (s.trans (Sub.new hbn)) hbG updD_same (ea'.mono fun d t h => h.sub (Sub.new hbn)))
  · subst e
    have hnl : n < x.own.length := by
      have := congrArg List.length en
      rw [List.length_drop, List.length_range, List.length_cons] at this
      omega
    rw [List.drop_eq_getElem_cons (by rw [List.length_range]; exact hnl), List.getElem_range, List.cons.injEq] at en
    obtain ⟨ei, exs⟩ := en
    subst ei
    have hy2 := hy x.own[i] (List.getElem_mem hnl)
    have eg : (x.own.map fun y => D.ref y.h).getD i .non = .ref x.own[i].h := by
      rw [List.getD_eq_getElem?_getD, List.getElem?_map, List.getElem?_eq_getElem hnl]
      rfl
    rw [eg]
    generalize hyi : x.own[i] = y at hy2
    obtain ⟨hya, hyo⟩ := hy2
    have hy' := hya.sub s
    have et : x.own.take (i + 1) = x.own.take i ++ [y] := by rw [List.take_add_one, List.getElem?_eq_getElem hnl, hyi]; rfl
    have etl : (x.own.take i).length = i := by rw [List.length_take]; omega
    have hlen := ownTold_len x.me (x.own.take i) 0
    have nx : ∀ (G2 : DH) (rows2 : List D) o2 o3 o4 o5, Sub G G2 → G2 f = some (.lst rows2) → EachIs (TAt (updD G f (.lst [])) G2) rows2 (ownTold x.me 0 (x.own.take (i + 1))) → N [some (.ref x.a), some (.ref f), o2, o3, o4, o5] G2 := fun G2 rows2 o2 o3 o4 o5 s2 h2 e2 =>
      hN _ _ ⟨⟨_, _, _, _, rfl⟩, i + 1, rows2, exs, hnl, s2, h2, e2⟩
    rw [et, ownTold_app, etl, Nat.zero_add, ownTold_cons, show ownTold x.me (i + 1) [] = [] from rfl] at nx
    walk_at "hd"
    simp only [hy'.h, lh_record, hy'.r, lk_over, true_and]
    walk_at "hd"
    cases hov : y.rc.over with
    | true =>
      rw [hov, if_pos rfl, List.append_nil] at nx
      walk_at "hd"
      exact nx G' rows _ _ _ _ s hfr ea
    | false =>
      rw [hov, if_neg Bool.false_ne_true] at nx
      walk_at "hd"
      have ha' : G' x.a = some (.ins ca.Hand x.fs) := s _ _ hb.a
      refine ⟨by unfold tyR; dsimp only; rw [hfr], ?_⟩
      simp only [hy'.h, lh_record, hy'.r, lk_told, ha', la_me, true_and]
      refine ⟨y.r, y.rc, x.me, i, none, nothing, rfl, hy'.r, hyo, nothing_ok, fun p q hp hq nqp => ?_⟩
      have nfp : f ≠ p := neD hfr hp
      have nfq : f ≠ q := neD hfr hq
      have hf2 : updD (updD G' p (.lst ((y.rc.told x.me i none nothing).guests.map ToldG.d))) q (.lst ((y.rc.told x.me i none nothing).rows.map Pl.Row.d)) f = some (.lst rows) := by
        rw [updD_ne nfq, updD_ne nfp]
        exact hfr
      simp only [mAppend]
      refine ⟨rows, hf2, by rw [ea.length, sizeLine_eq]; omega, ?_⟩
      have hpG : G p = none := by
        cases hg : G p with
        | none => rfl
        | some c => rw [s _ _ hg] at hp; cases hp
      have hqG : G q = none := by
        cases hg : G q with
        | none => rfl
        | some c => rw [s _ _ hg] at hq; cases hq
      have keep : ∀ {b c}, b ≠ f → G' b = some c → updD (updD (updD G' p (.lst ((y.rc.told x.me i none nothing).guests.map ToldG.d))) q (.lst ((y.rc.told x.me i none nothing).rows.map Pl.Row.d))) f (.lst (rows ++ [(y.rc.told x.me i none nothing).dr q p])) b = some c := fun {b c} nb hbc => by
        rw [updD_ne nb, updD_ne (neD hbc hq), updD_ne (neD hbc hp)]
        exact hbc
      refine nx _ (rows ++ [(y.rc.told x.me i none nothing).dr q p]) _ _ _ _ (fun b c hbc => keep (neD hbc hf) (s _ _ hbc)) updD_same (each_snoc (ea.mono fun d t ⟨q', p', e, q0, p0, h1, h2⟩ => ⟨q', p', e, q0, p0, keep (none_up q0).2 h1, keep (none_up p0).2 h2⟩) ?_)
      refine ⟨q, p, rfl, by rw [updD_ne (Ne.symm nfq)]; exact hqG, by rw [updD_ne (Ne.symm nfp)]; exact hpG, ?_, ?_⟩
      · rw [updD_ne (Ne.symm nfq), updD_same]
      · rw [updD_ne (Ne.symm nfp), updD_ne (Ne.symm nqp), updD_same]
end Hd
/-! ### hands: names of meetings -/
namespace Hd
open PySem PySem.Spec PyProof.Rows L2 Cc Pl
open PySem.W (EachIs AllAlike Sortable dataLe)
theorem pure_is_name (ds : List D) (G : DH) (R : DK) (EX : DX) (h : sd_is_name ds G R EX) : b_is_name (endsD (frg R) EX) (startD N_is_name ds) G := by
  obtain ⟨z, rfl, hz, q⟩ := h
  have q := frg_of q
  show b_is_name (endsD (frg R) EX) [some (.str z), none] G
  unfold isName at hz
  rw [Bool.and_eq_true, decide_eq_true_eq, List.all_eq_true] at hz
  obtain ⟨h1, h2⟩ := hz
  unfold b_is_name
  walk_at "hd"
  have hlen : ∀ R : DK, R (.int z.length) G → dLen [.str z] G R := fun R q => by
    unfold dLen lenOf
    dsimp only
    first | exact q | exact ⟨by rw [sizeLine_eq]; omega, q⟩ | (rw [if_pos (by rw [sizeLine_eq]; omega)]; exact q)
  refine hlen _ ?_
  walk_at "hd"
  rw [if_pos (show (z.length : Int) ≤ 10 by omega)]
  walk_at "hd"
  simp only [dLcF, iStrD]
  walk_at "hd"
  unfold Cc.signs
  refine goLcF_mem (ok := fun _ => True) (G := G) (f := fun c : Nat => D.str ⟨#[c]⟩) (fun c : Nat => none) trivial z.cps.toList [] (fun c hc C1 C2 hC => ?_) (by
    rw [List.length_nil, Nat.zero_add, Array.length_toList]
    exact sz_small (by have : z.cps.size = z.length := rfl; omega)) ?_
  · have hin := h2 c hc
    rw [decide_eq_true_eq] at hin
    walk_at "hd"
    unfold dNotIn inOf
    dsimp only
    rw [if_pos (show (#[c] : Array Nat).size = 1 from rfl)]
    have e : decide ([c].headD 0 ∈ ("abcdefghijklmnopqrstuvwxyz" : Str).cps.toList) = true := decide_eq_true hin
    rw [e]
    walk_at "hd"
    exact hC
  · have e : z.cps.toList.filterMap (fun c : Nat => (none : Option D)) = [] := by
      induction z.cps.toList with
      | nil => rfl
      | cons c l ih => rw [List.filterMap_cons]; exact ih
    rw [e, List.append_nil]
    refine veq_nil (ts := []) .nil shaped_nil ?_
    exact q
end Hd
/-! ### a list against the empty list: its items do not matter -/
namespace Cc
open PySem PySem.Spec PyProof.Rows L2
section
variable {X : Cx}
def rEqE (K : PySem.W.Frag) : R2 := fun x y H Q => ∃ a b xs, x = .ref a ∧ y = .ref b ∧ SqL K H a xs ∧ SqL K H b [] ∧ Q (.bl xs.isEmpty) H
def rNeE (K : PySem.W.Frag) : R2 := fun x y H Q => ∃ a b xs, x = .ref a ∧ y = .ref b ∧ SqL K H a xs ∧ SqL K H b [] ∧ Q (.bl (!xs.isEmpty)) H
theorem op_eqE (hu : X.A.units + 64 < cLine) : OpR X (compareOp .Eq) (rEqE X.K) := by
  intro pins s σ H x y v u Q I rx ry h
  obtain ⟨a, b, xs, rfl, rfl, ha, hb, q⟩ := h
  cases rx
  cases ry
  obtain ⟨its, rv, p, _⟩ := I.list ha
  obtain ⟨its2, rv2, p2, _⟩ := I.list hb
  cases rv2
  cases rv with
  | nil =>
    refine SeqAt.RcAt.lists (e := fun _ => true) p.isList p2.isList rfl (by omega) (fun j h1 _ => absurd h1 (by simp)) _ _ _ _ ?_
    exact ⟨.bl true, H, I, rfl, q⟩
  | cons r1 r2 =>
    refine SeqAt.RcAt.lists_lengths p.isList p2.isList (by simp) (by omega) _ _ _ _ ?_
    exact ⟨.bl false, H, I, rfl, q⟩
theorem op_neE (hu : X.A.units + 64 < cLine) : OpR X (compareOp .NotEq) (rNeE X.K) := by
  intro pins s σ H x y v u Q I rx ry h
  obtain ⟨a, b, xs, rfl, rfl, ha, hb, q⟩ := h
  cases rx
  cases ry
  obtain ⟨its, rv, p, _⟩ := I.list ha
  obtain ⟨its2, rv2, p2, _⟩ := I.list hb
  cases rv2
  cases rv with
  | nil =>
    refine SeqAt.RcNeAt.lists (e := fun _ => true) p.isList p2.isList rfl (by omega) (fun j h1 _ => absurd h1 (by simp)) _ _ _ _ ?_
    exact ⟨.bl false, H, I, rfl, q⟩
  | cons r1 r2 =>
    refine SeqAt.RcNeAt.lists_lengths p.isList p2.isList (by simp) (by omega) _ _ _ _ ?_
    exact ⟨.bl true, H, I, rfl, q⟩
def dEqE : D2 := fun x y G R => match x, y with
  | .rol l, .rol [] => R (.bl l.isEmpty) G
  | .ref a, .rol [] => ∃ l, G a = some (.lst l) ∧ R (.bl l.isEmpty) G
  | _, _ => False
def dNeE : D2 := fun x y G R => match x, y with
  | .rol l, .rol [] => R (.bl (!l.isEmpty)) G
  | .ref a, .rol [] => ∃ l, G a = some (.lst l) ∧ R (.bl (!l.isEmpty)) G
  | _, _ => False
theorem DvL.isE {K : KT} {H : Hp} {xs : List V} {l : List D} (h : DvL K H xs l) : xs.isEmpty = l.isEmpty := by
  cases h <;> rfl
theorem od_eqE (hu : X.A.units + 64 < cLine) : OD X (compareOp .Eq) dEqE := ⟨_, op_eqE hu, fun T x y H d e G R Q hr rx ry q cr => by
  unfold dEqE at q
  split at q
  · cases rx with
    | rol hq r =>
      cases ry with
      | rol hq2 r2 =>
        cases r2
        exact ⟨_, _, _, rfl, rfl, hq.sqL, hq2.sqL, cr _ _ _ _ (Up.refl H) hr (.bl _) (by rw [r.isE]; exact q)⟩
  · cases rx
    cases ry with
    | rol hq2 r2 =>
      cases r2
      obtain ⟨l, e1, q⟩ := q
      obtain ⟨xs, e2, r⟩ := hr _ _ e1
      exact ⟨_, _, _, rfl, rfl, SqL.of e2, hq2.sqL, cr _ _ _ _ (Up.refl H) hr (.bl _) (by rw [r.isE]; exact q)⟩
  · exact False.elim q⟩
theorem od_neE (hu : X.A.units + 64 < cLine) : OD X (compareOp .NotEq) dNeE := ⟨_, op_neE hu, fun T x y H d e G R Q hr rx ry q cr => by
  unfold dNeE at q
  split at q
  · cases rx with
    | rol hq r =>
      cases ry with
      | rol hq2 r2 =>
        cases r2
        exact ⟨_, _, _, rfl, rfl, hq.sqL, hq2.sqL, cr _ _ _ _ (Up.refl H) hr (.bl _) (by rw [r.isE]; exact q)⟩
  · cases rx
    cases ry with
    | rol hq2 r2 =>
      cases r2
      obtain ⟨l, e1, q⟩ := q
      obtain ⟨xs, e2, r⟩ := hr _ _ e1
      exact ⟨_, _, _, rfl, rfl, SqL.of e2, hq2.sqL, cr _ _ _ _ (Up.refl H) hr (.bl _) (by rw [r.isE]; exact q)⟩
  · exact False.elim q⟩
theorem veqE_rol {l : List D} {G : DH} {R : DK} : dEqE (.rol l) (.rol []) G R = R (.bl l.isEmpty) G := rfl
theorem vneE_rol {l : List D} {G : DH} {R : DK} : dNeE (.rol l) (.rol []) G R = R (.bl (!l.isEmpty)) G := rfl
end
/-! ### cells by tags -/
/-- the cells that the tags tell, all apart -/
structure AtF {T : Type} (G : DH) (f : T → Option (Addr × C)) : Prop where
  at_ : ∀ t a c, f t = some (a, c) → G a = some c
  ne : ∀ t t' a c c', f t = some (a, c) → f t' = some (a, c') → t = t'
namespace AtF
variable {T : Type} {G G' : DH} {f f' : T → Option (Addr × C)} {t : T} {a : Addr} {c c' : C}
theorem sub (h : AtF G f) (s : Sub G G') : AtF G' f := ⟨fun t a c e => s _ _ (h.at_ t a c e), h.ne⟩
theorem less (h : AtF G f) (s : ∀ t p, f' t = some p → f t = some p) : AtF G f' := ⟨fun t a c e => h.at_ t a c (s _ _ e), fun t t' a c c' e e' => h.ne t t' a c c' (s _ _ e) (s _ _ e')⟩
/-- one cell is written -/
theorem upd (h : AtF G f) (e : f t = some (a, c)) (e' : f' t = some (a, c')) (r : ∀ s, s ≠ t → f' s = f s) : AtF (updD G a c') f' := by
  have key : ∀ s b d, f' s = some (b, d) → ∃ d0, f s = some (b, d0) := fun s b d hs => by
    by_cases hst : s = t
    · subst hst
      rw [e'] at hs
      cases hs
      exact ⟨_, e⟩
    · rw [r s hst] at hs
      exact ⟨_, hs⟩
  refine ⟨fun s b d hs => ?_, fun s s' b d d' hs hs' => ?_⟩
  · by_cases hst : s = t
    · subst hst
      rw [e'] at hs
      cases hs
      exact updD_same
    · rw [r s hst] at hs
      rw [updD_ne]
      · exact h.at_ _ _ _ hs
      · intro hb
        subst hb
        exact hst (h.ne _ _ _ _ _ hs e)
  · obtain ⟨_, h1⟩ := key _ _ _ hs
    obtain ⟨_, h2⟩ := key _ _ _ hs'
    exact h.ne _ _ _ _ _ h1 h2
/-- one cell is new -/
theorem new (h : AtF G f) (n : G a = none) (e' : f' t = some (a, c)) (r : ∀ s, s ≠ t → f' s = f s) : AtF (updD G a c) f' := by
  have ap : ∀ s b d, s ≠ t → f' s = some (b, d) → G b = some d ∧ b ≠ a := fun s b d hst hs => by
    rw [r s hst] at hs
    have hb := h.at_ _ _ _ hs
    exact ⟨hb, neD hb n⟩
  refine ⟨fun s b d hs => ?_, fun s s' b d d' hs hs' => ?_⟩
  · by_cases hst : s = t
    · subst hst
      rw [e'] at hs
      cases hs
      exact updD_same
    · obtain ⟨h1, h2⟩ := ap s b d hst hs
      rw [updD_ne h2]
      exact h1
  · by_cases hst : s = t
    · by_cases hst' : s' = t
      · rw [hst, hst']
      · subst hst
        rw [e'] at hs
        cases hs
        exact absurd rfl (ap s' _ _ hst' hs').2
    · by_cases hst' : s' = t
      · subst hst'
        rw [e'] at hs'
        cases hs'
        exact absurd rfl (ap s _ _ hst hs).2
      · rw [r s hst] at hs
        rw [r s' hst'] at hs'
        exact h.ne _ _ _ _ _ hs hs'
end AtF
end Cc
/-! setting a cell -/
namespace Cc
open PySem PySem.Spec PyProof.Rows L2
def setc {T : Type} [DecidableEq T] (f : T → Option (Addr × C)) (t : T) (p : Addr × C) : T → Option (Addr × C) := fun s => if s = t then some p else f s
theorem setc_same {T : Type} [DecidableEq T] {f : T → Option (Addr × C)} {t : T} {p : Addr × C} : setc f t p t = some p := if_pos rfl
theorem setc_ne {T : Type} [DecidableEq T] {f : T → Option (Addr × C)} {t s : T} {p : Addr × C} (h : s ≠ t) : setc f t p s = f s := if_neg h
namespace AtF
variable {T : Type} [DecidableEq T] {G : DH} {f f' : T → Option (Addr × C)} {t : T} {a : Addr} {c c' : C}
theorem new' (h : AtF G f) (n : G a = none) (t : T) (c : C) : AtF (updD G a c) (setc f t (a, c)) := h.new n setc_same fun s hs => setc_ne hs
theorem upd' (h : AtF G f) (e : f t = some (a, c)) (c' : C) : AtF (updD G a c') (setc f t (a, c')) := h.upd e setc_same fun s hs => setc_ne hs
theorem cong (h : AtF G f) (e : ∀ s, f' s = f s) : AtF G f' := by
  have : f' = f := funext e
  rw [this]; exact h
theorem get (h : AtF G f) (e : f t = some (a, c)) : G a = some c := h.at_ _ _ _ e
theorem ap {t' : T} {b : Addr} (h : AtF G f) (e : f t = some (a, c)) (e' : f t' = some (b, c')) (n : t ≠ t') : a ≠ b := fun z => by
  subst z
  exact n (h.ne _ _ _ _ _ e e')
end AtF
end Cc
/-! ### hands: what holds of each record -/
namespace Hd
open PySem PySem.Spec PyProof.Rows L2 Cc Pl
open PySem.W (EachIs AllAlike Sortable dataLe)
theorem lt_len : ∀ (l : List Int) (lo hi : Int), l.Pairwise (· < ·) → (∀ x ∈ l, lo ≤ x ∧ x < hi) → l.length ≤ (hi - lo).toNat
  | [], _, _, _, _ => Nat.zero_le _
  | x :: l, lo, hi, h, b => by
    obtain ⟨h1, h2⟩ := List.pairwise_cons.mp h
    obtain ⟨b1, b2⟩ := b x List.mem_cons_self
    have := lt_len l (x + 1) hi h2 fun y hy => ⟨by have := h1 y hy; omega, (b y (List.mem_cons_of_mem _ hy)).2⟩
    rw [List.length_cons]
    omega
theorem sortI_perm (l : List Int) : (sortI l).Perm l := List.mergeSort_perm l _
theorem sortI_le (l : List Int) : (sortI l).Pairwise (· ≤ ·) := by
  have := List.pairwise_mergeSort (le := fun a b : Int => decide (a ≤ b)) (fun a b c h1 h2 => by simp at *; omega) (fun a b => by simp; omega) l
  exact this.imp (fun h => by simpa using h)
theorem lt_of_nodup {l : List Int} (h : l.Pairwise (· ≤ ·)) (n : l.Nodup) : l.Pairwise (· < ·) := by
  have := List.Pairwise.and h n
  exact this.imp fun ⟨a, b⟩ => by omega
theorem sortI_lt {l : List Int} (n : l.Nodup) : (sortI l).Pairwise (· < ·) := lt_of_nodup (sortI_le l) ((sortI_perm l).nodup_iff.mpr n)
theorem nodup_of_lt {l : List Int} (h : l.Pairwise (· < ·)) : l.Nodup := h.imp fun h => by omega
theorem nd_len {l : List Int} {lo hi : Int} (n : l.Nodup) (b : ∀ x ∈ l, lo ≤ x ∧ x < hi) : l.length ≤ (hi - lo).toNat := by
  rw [← (sortI_perm l).length_eq]
  exact lt_len _ lo hi (sortI_lt n) fun x hx => b x ((sortI_perm l).mem_iff.mp hx)
/-- rising lists of the same numbers are the same -/
theorem lt_ext {l m : List Int} (h : l.Pairwise (· < ·)) (h' : m.Pairwise (· < ·)) (e : ∀ x, x ∈ l ↔ x ∈ m) : l = m := by
  have hp : l.Perm m := (List.perm_ext_iff_of_nodup (nodup_of_lt h) (nodup_of_lt h')).mpr e
  exact hp.eq_of_pairwise (le := (· ≤ ·)) (fun a b _ _ h1 h2 => by omega) (h.imp fun h => by omega) (h'.imp fun h => by omega)
section
variable {α : Type}
theorem byH_perm (l : List (Int × α)) : (byH l).Perm l := List.mergeSort_perm l _
theorem byH_le (l : List (Int × α)) : ((byH l).map (·.1)).Pairwise (· ≤ ·) := by
  have := List.pairwise_mergeSort (le := fun a b : Int × α => decide (a.1 ≤ b.1)) (fun a b c h1 h2 => by simp at *; omega) (fun a b => by simp; omega) l
  rw [List.pairwise_map]
  exact this.imp (fun h => by simpa using h)
theorem byH_lt {l : List (Int × α)} (n : (l.map (·.1)).Nodup) : ((byH l).map (·.1)).Pairwise (· < ·) := lt_of_nodup (byH_le l) (((byH_perm l).map _).nodup_iff.mpr n)
theorem byH_mem {l : List (Int × α)} {x : Int × α} : x ∈ byH l ↔ x ∈ l := (byH_perm l).mem_iff
theorem byH_key {l : List (Int × α)} {x : Int} : x ∈ (byH l).map (·.1) ↔ x ∈ l.map (·.1) := ((byH_perm l).map _).mem_iff
theorem keys_filter {l : List (Int × α)} {h x : Int} : x ∈ (l.filter (fun y => !decide (y.1 = h))).map (·.1) ↔ x ∈ l.map (·.1) ∧ x ≠ h := by
  simp only [List.mem_map, List.mem_filter, Bool.not_eq_true', decide_eq_false_iff_not]
  constructor
  · rintro ⟨p, ⟨a, b⟩, rfl⟩; exact ⟨⟨p, a, rfl⟩, b⟩
  · rintro ⟨⟨p, a, rfl⟩, b⟩; exact ⟨p, ⟨a, b⟩, rfl⟩
theorem nd_put {l : List (Int × α)} {h : Int} {y : α} (n : (l.map (·.1)).Nodup) : (((l.filter (fun x => !decide (x.1 = h))) ++ [(h, y)]).map (·.1)).Nodup := by
  rw [List.map_append, List.map_cons, List.map_nil]
  refine List.nodup_append.mpr ⟨n.sublist (List.filter_sublist.map _), by simp, fun a ha b hb => ?_⟩
  rw [List.mem_singleton.mp hb]
  exact (keys_filter.mp ha).2
end
structure Rec.Inv (r : Rec) : Prop where
  plan : r.plan.Ok
  nd : Ndk r.ones
  ks : ∀ o ∈ r.ones, 0 ≤ o.k ∧ o.k < r.plan.m
  gs : (r.guests.map (·.1)).Pairwise (· < ·)
  g8 : ∀ g ∈ r.hands, 0 ≤ g ∧ g < 8
  ss : (r.says.map (·.1)).Pairwise (· < ·)
  sg : ∀ s ∈ r.says.map (·.1), s ∈ r.hands
  say : ∀ s ∈ r.says, s.2.Ok
theorem Rec.Inv.glen {r : Rec} (h : r.Inv) : r.guests.length ≤ 8 := by
  have := lt_len _ 0 8 h.gs h.g8
  rw [List.length_map] at this
  exact this
theorem Rec.Inv.slen {r : Rec} (h : r.Inv) : r.says.length ≤ 8 := by
  have := lt_len _ 0 8 h.ss fun x hx => h.g8 x (h.sg x hx)
  rw [List.length_map] at this
  exact this
theorem Rec.Inv.olen {r : Rec} (h : r.Inv) : r.ones.length ≤ 12 := by
  have n := h.nd
  unfold Ndk at n
  have := nd_len (l := r.ones.map (fun o => o.k)) (lo := 0) (hi := r.plan.m) n fun x hx => by
    obtain ⟨o, ho, rfl⟩ := List.mem_map.mp hx
    exact h.ks o ho
  rw [List.length_map] at this
  have := h.plan.m1
  omega
theorem Rec.Inv.ok {r : Rec} (h : r.Inv) : r.Ok := ⟨h.plan, by have := h.olen; omega, by have := h.glen; omega, by have := h.slen; omega, nodup_of_lt h.ss, h.say⟩
theorem Rec.Inv.grow {r : Rec} (h : r.Inv) : r.grow.Inv := ⟨h.plan, h.nd, h.ks, h.gs, h.g8, h.ss, h.sg, h.say⟩
theorem Rec.Inv.off {r : Rec} (h : r.Inv) (b : Bool) : Rec.Inv { r with over := b } := ⟨h.plan, h.nd, h.ks, h.gs, h.g8, h.ss, h.sg, h.say⟩
theorem Rec.Inv.name {r : Rec} (h : r.Inv) (z : Str) : Rec.Inv { r with note := z } := ⟨h.plan, h.nd, h.ks, h.gs, h.g8, h.ss, h.sg, h.say⟩
theorem Rec.Inv.move {r : Rec} (h : r.Inv) {b : Int} (b0 : 0 ≤ b) (b1 : b ≤ 999) : (r.move b).Inv :=
  ⟨{ h.plan with b0 := b0, b1 := b1 }, List.nodup_nil, fun o ho => (by cases ho), h.gs, h.g8, h.ss, h.sg, h.say⟩
theorem changed_mem {os : List One} {k : Int} {b : Option Int} {o : One} : o ∈ Pl.changed os k b ↔ (o ∈ os ∧ o.k ≠ k) ∨ o = ⟨k, (chg os k).1 + 1, b⟩ := by
  unfold Pl.changed
  rw [byK_mem, List.mem_append, List.mem_filter, List.mem_singleton, Bool.not_eq_true', decide_eq_false_iff_not]
theorem Rec.Inv.moveOne {r : Rec} (h : r.Inv) {k : Int} {b : Option Int} (k0 : 0 ≤ k) (k1 : k < r.plan.m) : (r.moveOne k b).Inv := by
  refine ⟨h.plan, ndk_changed h.nd _ _, fun o ho => ?_, h.gs, h.g8, h.ss, h.sg, h.say⟩
  rcases changed_mem.mp ho with ⟨ho, _⟩ | rfl
  · exact h.ks o ho
  · exact ⟨k0, k1⟩
theorem Rec.Inv.hear {r : Rec} (h : r.Inv) {hand : Int} {s : Say} (hh : hand ∈ r.hands) (ok : s.Ok) : (r.hear hand s).Inv := by
  refine ⟨h.plan, h.nd, h.ks, h.gs, h.g8, byH_lt (nd_put (nodup_of_lt h.ss)), fun x hx => ?_, fun x hx => ?_⟩
  · have hx := byH_key.mp hx
    rw [List.map_append, List.mem_append] at hx
    rcases hx with hx | hx
    · exact h.sg x (keys_filter.mp hx).1
    · rw [List.mem_singleton.mp hx]; exact hh
  · have hx := byH_mem.mp hx
    rcases List.mem_append.mp hx with hx | hx
    · exact h.say x (List.mem_filter.mp hx).1
    · rw [List.mem_singleton.mp hx]; exact ok
theorem Rec.Inv.add {r : Rec} (h : r.Inv) {hand : Int} {b : Option Int} {s : Say} (hh : hand ∉ r.hands) (h0 : 0 ≤ hand ∧ hand < 8) (ok : s.Ok) : (r.add hand b s).Inv := by
  have hm : ∀ x, x ∈ (byH (r.guests ++ [(hand, b)])).map (·.1) ↔ x ∈ r.hands ∨ x = hand := fun x => by
    rw [byH_key, List.map_append, List.mem_append]
    exact or_congr Iff.rfl List.mem_singleton
  have hn : ((r.guests ++ [(hand, b)]).map (·.1)).Nodup := by
    rw [List.map_append]
    refine List.nodup_append.mpr ⟨nodup_of_lt h.gs, by simp, fun a ha c hc e => ?_⟩
    subst e
    rw [List.map_cons, List.map_nil, List.mem_singleton] at hc
    subst hc
    exact hh ha
  have h1 : Rec.Inv { r with guests := byH (r.guests ++ [(hand, b)]) } :=
    ⟨h.plan, h.nd, h.ks, byH_lt hn, fun x hx => by rcases (hm x).mp hx with hx | rfl; exact h.g8 x hx; exact h0, h.ss, fun x hx => (hm x).mpr (.inl (h.sg x hx)), h.say⟩
  exact h1.hear ((hm hand).mpr (.inr rfl)) ok
theorem Rec.hands_drop (r : Rec) (hand : Int) : (r.drop hand).hands = r.hands.filter fun x => !decide (x = hand) := by
  show (r.guests.filter _).map _ = (r.guests.map _).filter _
  rw [List.filter_map]
  rfl
theorem Rec.Inv.drop {r : Rec} (h : r.Inv) (hand : Int) : (r.drop hand).Inv := by
  refine ⟨h.plan, h.nd, h.ks, h.gs.sublist (List.filter_sublist.map _), fun x hx => ?_, h.ss.sublist (List.filter_sublist.map _), fun x hx => ?_, fun x hx => h.say x (List.mem_filter.mp hx).1⟩
  · exact h.g8 x (keys_filter.mp hx).1
  · obtain ⟨a, b⟩ := keys_filter.mp hx
    exact keys_filter.mpr ⟨h.sg x a, b⟩
theorem Rec.Inv.first {p : Plan} {gs : List Int} (ok : p.Ok) (n : gs.Nodup) (h8 : ∀ g ∈ gs, 0 ≤ g ∧ g < 8) : (first p gs).Inv := by
  have e : (Hd.first p gs).hands = sortI gs := first_hands p gs
  refine ⟨ok, List.nodup_nil, fun o ho => (by cases ho), ?_, ?_, .nil, fun s hs => (by cases hs), fun s hs => (by cases hs)⟩
  · show (Hd.first p gs).hands.Pairwise _
    rw [e]; exact sortI_lt n
  · rw [e]; exact fun g hg => h8 g ((sortI_perm gs).mem_iff.mp hg)
end Hd
/-! ### k02: promises; the plain law -/
namespace K02
open PySem PySem.Spec PyProof.Rows L2 Cc Pl
open PySem.W (EachIs AllAlike Sortable dataLe)
abbrev Ch := Int × Option Int
def chD (c : Ch) : D := .tup [.int c.1, oD c.2]
def okC (p : Plan) (c : Ch) : Bool := btw (.int c.1) 0 (p.m - 1) && match c.2 with
  | none => true
  | some b => btw (.int b) 0 999
def after (cs : List Ch) : List One := cs.foldl (fun os c => changed os c.1 c.2) []
def sd_rows (C : Addr) : SpD := fun ds G R EX => ∃ l cs, ds = [.tup l, .rol (cs.map chD)] ∧ (∀ x ∈ l, Atom x) ∧ cs.length ≤ 100 ∧ (isPlan l = false → EX (.ref C) none G) ∧
  ∀ p : Plan, l = p.ds → p.Ok → (cs.all (okC p) = true → ∀ a, G a = none → R (.ref a) (updD G a (.lst ((Pl.rowsOf p (after cs)).map Row.d)))) ∧ (cs.all (okC p) = false → EX (.ref C) none G)
def sd__law_plan : SpD := fun ds G R _ => ∃ a l, ds = [.ref a] ∧ G a = some (.lst l) ∧ Draws l ∧ ∀ (p : Plan) l', p.Ok → Draws l' → R p.d (updD G a (.lst l'))
/-- by own going -/
def some_ (cs : List Ch) (k : Int) : List (Option Int) := (cs.filter fun c => decide (c.1 = k)).map (·.2)
def dueRow (p : Plan) (cs : List Ch) (k : Nat) : Pl.Row := ⟨k, match (some_ cs k).getLast? with
  | some b => b
  | none => some (p.b + k * p.e), (some_ cs k).length⟩
theorem after_step (cs : List Ch) : ∀ os, Ndk os → Ndk (cs.foldl (fun os c => changed os c.1 c.2) os) ∧ ∀ k, chg (cs.foldl (fun os c => changed os c.1 c.2) os) k = match (some_ cs k).getLast? with
    | some b => ((chg os k).1 + (some_ cs k).length, b)
    | none => chg os k := by
  induction cs with
  | nil => exact fun os n => ⟨n, fun k => rfl⟩
  | cons c cs ih =>
    intro os n
    obtain ⟨h1, h2⟩ := ih (changed os c.1 c.2) (ndk_changed n _ _)
    refine ⟨h1, fun k => ?_⟩
    rw [List.foldl_cons, h2 k, chg_changed n]
    unfold some_
    rw [List.filter_cons]
    by_cases h : c.1 = k
    · rw [decide_eq_true h, if_pos rfl, List.map_cons]
      subst h
      rw [if_pos rfl]
      rw [List.getLast?_cons]
      cases e : ((cs.filter fun d => decide (d.1 = c.1)).map (·.2)).getLast? with
      | none =>
        have e2 := List.getLast?_eq_none_iff.mp e
        rw [e2]
        simp
      | some b =>
        simp only [Option.getD_some, List.length_cons]
        congr 1
        omega
    · rw [decide_eq_false h, if_neg Bool.false_ne_true]
      have h' : ¬ k = c.1 := fun e => h e.symm
      rw [if_neg h']
theorem due_rows (p : Plan) (cs : List Ch) : (List.range p.m.toNat).map (dueRow p cs) = Pl.rowsOf p (after cs) := by
  unfold Pl.rowsOf
  refine List.map_congr_left fun k _ => ?_
  obtain ⟨_, h⟩ := after_step cs [] (by unfold Ndk; simp)
  have hk := h (k : Int)
  unfold Pl.rowOf dueRow after
  have c0 : chg ([] : List One) k = (0, none) := rfl
  rw [hk]
  cases e : (some_ cs k).getLast? with
  | none =>
    have e2 := List.getLast?_eq_none_iff.mp e
    rw [e2, c0]
    simp
  | some b =>
    have : (some_ cs k) ≠ [] := fun z => by rw [z] at e; cases e
    have hl : 0 < (some_ cs k).length := List.length_pos_iff.mpr this
    rw [c0]
    simp only [Int.zero_add]
    rw [if_neg (by omega)]
theorem after_len (cs : List Ch) : (after cs).length ≤ cs.length := by
  have : ∀ os : List One, (cs.foldl (fun os c => changed os c.1 c.2) os).length ≤ os.length + cs.length := by
    induction cs with
    | nil => intro os; simp
    | cons c cs ih =>
      intro os
      have h1 := ih (changed os c.1 c.2)
      have h2 := changed_len os c.1 c.2
      rw [List.foldl_cons, List.length_cons]
      omega
  have z := this []
  simp only [List.length_nil, Nat.zero_add] at z
  exact z
end K02
/-! ### the laws' own defs: promises -/
namespace Lw
open PySem PySem.Spec PyProof.Rows L2 Cc Pl
def sd__law_plan : SpD := fun ds G R _ => ∃ a l, ds = [.ref a] ∧ G a = some (.lst l) ∧ Draws l ∧ ∀ (p : Plan) l', p.Ok → Draws l' → R p.d (updD G a (.lst l'))
def sd__law_mixed : SpD := fun ds G R _ => ∃ (a : Addr) (l ns : List D), ds = [.ref a, .rol ns] ∧ G a = some (.lst l) ∧ Draws l ∧ ns.length ≤ 100000 ∧ ∀ (ms : List D) l', ms.Perm ns → Draws l' → R (.rol ms) (updD G a (.lst l'))
theorem perm_of_map {α β : Type} {f : α → β} {ms ys : List β} (p : ms.Perm ys) : ∀ {ns : List α}, ys = ns.map f → ∃ ms' : List α, ms = ms'.map f ∧ ms'.Perm ns := by
  induction p with
  | nil => intro ns e; cases ns with
    | nil => exact ⟨[], rfl, .nil⟩
    | cons a l => cases e
  | cons x _ ih =>
    intro ns e
    cases ns with
    | nil => cases e
    | cons a l =>
      injection e with e1 e2
      obtain ⟨ms', rfl, h⟩ := ih e2
      exact ⟨a :: ms', by rw [List.map_cons, e1], h.cons a⟩
  | swap x y l =>
    intro ns e
    match ns, e with
    | a :: b :: k, e =>
      injection e with e1 e2
      injection e2 with e2 e3
      exact ⟨b :: a :: k, by rw [List.map_cons, List.map_cons, e1, e2, e3], .swap _ _ _⟩
  | trans _ _ ih1 ih2 =>
    intro ns e
    obtain ⟨m2, rfl, h2⟩ := ih2 e
    obtain ⟨m1, rfl, h1⟩ := ih1 rfl
    exact ⟨m1, rfl, h1.trans h2⟩
/-- .. of what comes of a list -/
theorem use_mixed {α : Type} {f : α → D} {G : DH} {R : DK} {EX : DX} {a : Addr} {l : List D} {ns : List α} (hG : G a = some (.lst l)) (dl : Draws l) (hn : ns.length ≤ 100000) (q : ∀ (ms : List α) l', ms.Perm ns → Draws l' → R (.rol (ms.map f)) (updD G a (.lst l'))) : sd__law_mixed [.ref a, .rol (ns.map f)] G R EX :=
  ⟨a, l, ns.map f, rfl, hG, dl, by rw [List.length_map]; exact hn, fun ms l' hp dl' => by
    obtain ⟨ms', rfl, h⟩ := perm_of_map hp rfl
    exact q ms' l' h dl'⟩
end Lw
/-! ### the laws' own defs: readings -/
namespace Lw
open PySem PySem.Spec PyProof.Rows L2 Cc Pl
def b__law_mixed : DSt :=
  (sSeq (sAsg (dCB dListC (dCons (dVar 1) dNil)) (gN 2))
  (sSeq (sAsg (dLst dNil) (gN 3))
  (sSeq (sWhile (dTest (dOp dNeE (dVar 2) (dLstF dNil))) (sDrop (dBM "list" mAppend (dVar 3) (dCons (dBM "list" mPopAt (dVar 2) (dCons (dCall sd__law_off (dCons (dVar 0) (dCons (dCB dLen (dCons (dVar 2) dNil)) dNil))) dNil)) dNil))))
  (sFz 3 (sRet (dVar 3))))))
abbrev N__law_mixed : List Str := ["_law_d", "_law_row", "_law_left", "_law_found"]
def b__law_plan : DSt :=
  (sSeq (sAsg (dOp dIx (dLstF (dCons (dC (.int 1)) (dCons (dOp dAddF (dC (.int 1)) (dCall sd__law_off (dCons (dVar 0) (dCons (dC (.int 4)) dNil)))) (dCons (dOp dAddF (dC (.int 1)) (dCall sd__law_off (dCons (dVar 0) (dCons (dC (.int 12)) dNil)))) dNil)))) (dCall sd__law_off (dCons (dVar 0) (dCons (dC (.int 3)) dNil)))) (gN 1))
  (sSeq (sAsg (dOp dAddF (dC (.int 1)) (dCall sd__law_off (dCons (dVar 0) (dCons (dOp dIx (dLstF (dCons (dC (.int 6)) (dCons (dC (.int 50)) dNil))) (dCall sd__law_off (dCons (dVar 0) (dCons (dC (.int 2)) dNil)))) dNil)))) (gN 2))
  (sSeq (sAsg (dOp dAddF (dC (.int 1)) (dCall sd__law_off (dCons (dVar 0) (dCons (dOp dIx (dLstF (dCons (dC (.int 20)) (dCons (dC (.int 100)) dNil))) (dCall sd__law_off (dCons (dVar 0) (dCons (dC (.int 2)) dNil)))) dNil)))) (gN 3))
  (sRet (dTup (dCons (dCall sd__law_off (dCons (dVar 0) (dCons (dOp dIx (dLstF (dCons (dC (.int 40)) (dCons (dC (.int 1000)) dNil))) (dCall sd__law_off (dCons (dVar 0) (dCons (dC (.int 2)) dNil)))) dNil))) (dCons (dVar 2) (dCons (dVar 3) (dCons (dVar 1) dNil)))))))))
abbrev N__law_plan : List Str := ["_law_d", "_law_many", "_law_long", "_law_every"]
end Lw
/-! ### steps at known cells -/
namespace Cc
open PySem PySem.Spec PyProof.Rows L2
section
variable {G : DH} {a : Addr} {l : List D} {R : DK} {EX : DX}
theorem ty_lst (h : G a = some (.lst l)) : tyR G "list" (.ref a) := by unfold tyR; dsimp only; rw [h]
theorem ty_dK {kvs : List (Key × D)} (h : G a = some (.dK kvs)) : tyR G "dict" (.ref a) := by unfold tyR; dsimp only; rw [h]
theorem ty_dT {kvs : List (List Key × D)} (h : G a = some (.dT kvs)) : tyR G "dict" (.ref a) := by unfold tyR; dsimp only; rw [h]
theorem app_at {y : D} (h : G a = some (.lst l)) (hl : l.length < sizeLine) (q : R .non (updD G a (.lst (l ++ [y])))) : mAppend (.ref a) [y] G R := ⟨l, h, hl, q⟩
theorem pop_at {i : Int} {n : Nat} {y : D} (h : G a = some (.lst l)) (ei : i = n) (e : l[n]? = some y) (hl : l.length ≤ sizeLine) (q : R y (updD G a (.lst (l.eraseIdx n)))) : mPopAt (.ref a) [.int i] G R := by
  have hn : n < l.length := by
    rcases Nat.lt_or_ge n l.length with h | h
    · exact h
    · rw [List.getElem?_eq_none h] at e; cases e
  have z := sizeLine_eq
  refine ⟨l, n, y, h, by omega, by omega, ?_, e, q⟩
  subst ei
  unfold seqIndex?
  simp
  first | omega | exact hn
theorem off_at {m : Int} (h : G a = some (.lst l)) (dl : Draws l) (m0 : 0 < m) (m1 : m < 1073741824) (q : ∀ r l', 0 ≤ r → r < m → Draws l' → R (.int r) (updD G a (.lst l'))) : sd__law_off [.ref a, .int m] G R EX :=
  ⟨a, m, l, rfl, h, dl, m0, m1, fun r l' h0 h1 dl' _ => q r l' h0 h1 dl'⟩
/-- .. and what is drawn is known -/
theorem off_atF {m : Int} (h : G a = some (.lst l)) (dl : Draws l) (m0 : 0 < m) (m1 : m < 1073741824) (q : ∀ r l', 0 ≤ r → r < m → Draws l' → (r, l') = offF l m → R (.int r) (updD G a (.lst l'))) : sd__law_off [.ref a, .int m] G R EX :=
  ⟨a, m, l, rfl, h, dl, m0, m1, q⟩
theorem menu2F {i j r : Int} {G : DH} {R : DK} (h0 : 0 ≤ r) (h1 : r < 2) (q : R (.int (if r = 0 then i else j)) G) : dIx (.rol [.int i, .int j]) (.int r) G R := by
  rw [vix_rol]
  rcases (show r = 0 ∨ r = 1 by omega) with rfl | rfl
  · rw [vat_0]; rw [if_pos rfl] at q; exact q
  · rw [vat_1]; rw [if_neg (by decide)] at q; exact q
theorem menuF {l : List D} {r : Int} {G : DH} {R : DK} (h0 : 0 ≤ r) (h1 : r < l.length) (q : ∀ d, l[r.toNat]? = some d → R d G) : dIx (.rol l) (.int r) G R := by
  rw [vix_rol]
  obtain ⟨n, rfl⟩ := Int.eq_ofNat_of_zero_le h0
  have hn : n < l.length := by omega
  have e : L2.atI l (n : Int) = some l[n] := by
    unfold L2.atI ixN
    simp
    first
      | exact hn
      | exact ⟨hn, rfl⟩
      | (rw [if_pos hn]; simp [hn])
  rw [e]
  exact q _ (by show l[n]? = _; exact List.getElem?_eq_getElem hn)
theorem ix_dk {kvs : List (Key × D)} {k : Str} {d : D} (h : G a = some (.dK kvs)) (e : lookK kvs (Sum.inr k) = some d) (q : R d G) : dIx (.ref a) (.str k) G R := by
  have e1 : itemOf G (.ref a) (.str k) = some d := by
    unfold itemOf
    dsimp only
    rw [h]
    exact e
  unfold dIx
  rw [e1]
  exact q
theorem set_dk {kvs : List (Key × D)} {k : Str} {v : D} {P : DH → Prop} (h : G a = some (.dK kvs)) (hl : kvs.length < sizeLine) (q : P (updD G a (.dK (putD kvs (Sum.inr k) v)))) : dSetD (.ref a) (.str k) v G P := by
  unfold dSetD
  dsimp only
  rw [h]
  exact ⟨_, rfl, hl, q⟩
theorem neE_at (h : G a = some (.lst l)) (q : R (.bl (!l.isEmpty)) G) : dNeE (.ref a) (.rol []) G R := ⟨l, h, q⟩
theorem eqE_at (h : G a = some (.lst l)) (q : R (.bl l.isEmpty) G) : dEqE (.ref a) (.rol []) G R := ⟨l, h, q⟩
theorem ixl_at {i : Int} {d : D} (h : G a = some (.lst l)) (e : L2.atI l i = some d) (q : R d G) : dIx (.ref a) (.int i) G R := ix_at h e q
end
end Cc
/-! ### the laws' own defs by their readings -/
namespace Lw
open PySem PySem.Spec PyProof.Rows L2 Cc Pl
open PySem.W (EachIs AllAlike Sortable dataLe)
theorem pure__law_plan (ds : List D) (G : DH) (R : DK) (EX : DX) (h : sd__law_plan ds G R EX) : b__law_plan (endsD (frg R) EX) (startD N__law_plan ds) G := by
  obtain ⟨a, l, rfl, hG, dl, q⟩ := h
  rw [← updD_id hG]
  show b__law_plan (endsD (frg R) EX) [some (.ref a), none, none, none] _
  unfold b__law_plan
  walk_at "rd"
  refine off_use dl (by decide) (by decide) fun r4 l a0 a1 dl => ?_
  walk_at "rd"
  refine off_use dl (by decide) (by decide) fun r12 l b0 b1 dl => ?_
  walk_at "rd"
  refine off_use dl (by decide) (by decide) fun r3 l c0 c1 dl => ?_
  refine menu3 c0 c1 fun many hm => ?_
  refine off_use dl (by decide) (by decide) fun r l h0 h1 dl => ?_
  refine menu2 h0 h1 fun x hx => ?_
  refine off_use dl (by omega) (by omega) fun long l l0 l1 dl => ?_
  walk_at "rd"
  refine off_use dl (by decide) (by decide) fun r l h0 h1 dl => ?_
  refine menu2 h0 h1 fun y hy => ?_
  refine off_use dl (by omega) (by omega) fun every l e0 e1 dl => ?_
  walk_at "rd"
  refine off_use dl (by decide) (by decide) fun r l h0 h1 dl => ?_
  refine menu2 h0 h1 fun z hz => ?_
  refine off_use dl (by omega) (by omega) fun beg l g0 g1 dl => ?_
  exact frg_of (q ⟨beg, 1 + long, 1 + every, many⟩ l (by constructor <;> dsimp only <;> omega) dl)
theorem perm_take {α : Type} {l : List α} {n : Nat} (h : n < l.length) : (l[n] :: l.eraseIdx n).Perm l := by
  rw [List.eraseIdx_eq_take_drop_succ]
  have e : l = l.take n ++ l[n] :: l.drop (n + 1) := by
    rw [← List.drop_eq_getElem_cons h, List.take_append_drop]
  conv => rhs; rw [e]
  exact List.perm_middle.symm
theorem eraseIdx_map {α β : Type} (f : α → β) : ∀ (l : List α) (n : Nat), (l.map f).eraseIdx n = (l.eraseIdx n).map f
  | [], _ => rfl
  | _ :: _, 0 => rfl
  | x :: l, n + 1 => by
    rw [List.map_cons, List.eraseIdx_cons_succ, List.eraseIdx_cons_succ, List.map_cons, eraseIdx_map f l n]
theorem pure__law_mixed (ds : List D) (G : DH) (R : DK) (EX : DX) (h : sd__law_mixed ds G R EX) : b__law_mixed (endsD (frg R) EX) (startD N__law_mixed ds) G := by
  obtain ⟨a, l, ns, rfl, hG, dl, hn, q⟩ := h
  show b__law_mixed (endsD (frg R) EX) [some (.ref a), some (.rol ns), none, none] _
  unfold b__law_mixed
  walk_at "rd"
  simp only [dListC, seqOf]
  intro p hp
  walk_at "rd"
  intro f hf
  have npa : p ≠ a := Ne.symm (neD hG hp)
  obtain ⟨hf0, nfp⟩ := none_up hf
  have nfa : f ≠ a := Ne.symm (neD hG hf0)
  refine ⟨fun m δ G' => ∃ (l : List D) (left found : List D), m = left.length ∧ δ = [some (.ref a), some (.rol ns), some (.ref p), some (.ref f)] ∧ Draws l ∧ (found ++ left).Perm ns ∧ G' a = some (.lst l) ∧ G' p = some (.lst left) ∧ G' f = some (.lst found) ∧
    ∀ b c, b ≠ a → G b = some c → G' b = some c, ⟨_, l, ns, [], rfl, rfl, dl, by simp, ?_, ?_, updD_same, ?_⟩, fun m δ G' ⟨l, left, found, em, eδ, dl, hp1, ha, hp', hf', hk⟩ => ?_⟩
  · rw [updD_ne (Ne.symm nfa), updD_ne (Ne.symm npa)]; exact hG
  · rw [updD_ne (Ne.symm nfp)]; exact updD_same
  · intro b c _ hb
    rw [updD_ne (neD hb hf0), updD_ne (neD hb hp)]; exact hb
  · subst em eδ
    have hlen := hp1.length_eq
    rw [List.length_append] at hlen
    walk_at "rd"
    refine neE_at hp' ?_
    walk_at "rd"
    cases left with
    | nil =>
      simp only [List.isEmpty_nil, Bool.not_true, Bool.false_eq_true, if_false]
      refine sFz_lst (p := f) rfl hf' ?_
      rw [List.append_nil] at hp1
      walk_at "rd"
      refine ⟨updD G a (.lst l), fun b c hb => ?_, q found l hp1 dl⟩
      by_cases hba : b = a
      · subst hba
        rw [updD_same] at hb
        cases hb
        rw [delD_ne (Ne.symm nfa)]
        exact ha
      · rw [updD_ne hba] at hb
        rw [delD_ne (neD hb hf0)]
        exact hk b c hba hb
    | cons x left =>
      simp only [List.isEmpty_cons, Bool.not_false, if_true]
      walk_at "rd"
      refine ⟨ty_lst hf', ?_⟩
      refine ⟨ty_lst hp', ?_⟩
      refine vlen_at hp' ?_
      have z := sizeLine_eq
      refine off_at ha dl (by simp only [List.length_cons]; omega) (by simp only [List.length_cons] at *; omega) fun r l r0 r1 dl => ?_
      obtain ⟨n, rfl⟩ := Int.eq_ofNat_of_zero_le r0
      have hn2 : n < (x :: left).length := by simp only [List.length_cons] at *; omega
      have hp2 : updD G' a (.lst l) p = some (.lst (x :: left)) := by rw [updD_ne npa]; exact hp'
      refine pop_at hp2 rfl (y := (x :: left)[n]) (List.getElem?_eq_getElem hn2) (by simp only [List.length_cons] at *; omega) ?_
      refine app_at (l := found) (by rw [updD_ne nfp, updD_ne nfa]; exact hf') (by omega) ?_
      refine ⟨left.length, by simp, l, (x :: left).eraseIdx n, found ++ [(x :: left)[n]], ?_, dl, ?_, ?_, ?_, ?_, ?_⟩
      · rw [List.length_eraseIdx_of_lt hn2]; rfl
      · rw [List.append_assoc]
        exact (List.Perm.append_left found (perm_take hn2)).trans hp1
      · rw [updD_ne (Ne.symm nfa), updD_ne (Ne.symm npa)]; exact updD_same
      · rw [updD_ne (Ne.symm nfp), updD_same]
      · rw [updD_same]
      · intro b c nb hb
        rw [updD_ne (neD hb hf0), updD_ne (neD hb hp), updD_ne nb]
        exact hk b c nb hb
end Lw
/-! ### k17: promises -/
namespace K17
open PySem PySem.Spec PyProof.Rows L2 Cc TL
open SX (S)
def natsD (ns : List Nat) : D := .tup (ns.map fun n : Nat => .int (n : Int))
def callD (c : List Nat × List Nat) : D := .tup [natsD c.1, natsD c.2]
def oN : Option Nat → D
  | none => .non
  | some n => .int n
def gsO : Option (List Nat) → D
  | none => .non
  | some gs => natsD gs
def callO : Option (List Nat × List Nat) → D
  | none => .non
  | some c => callD c
def big : Nat := 5000
def sd_number_of : SpD := fun ds G R _ => ∃ w : List Nat, ds = [.str (S w)] ∧ w.length ≤ big ∧ R (oN (pnum w)) G
def sd_guests_of : SpD := fun ds G R _ => ∃ w : List Nat, ds = [.str (S w)] ∧ w.length ≤ big ∧ R (gsO (gsOf w)) G
def sd_read (C : Addr) : SpD := fun ds G R EX => ∃ t : List Nat, ds = [.str (S t)] ∧ t.length ≤ big ∧
  (∀ cs : List (List Nat × List Nat), (linesOf t).map lineOf = cs.map some → ∀ p, G p = none → R (.ref p) (updD G p (.lst (cs.map callD)))) ∧
  ∀ (ls rs : List (List Nat)) (l : List Nat) (cs : List (List Nat × List Nat)), linesOf t = ls ++ l :: rs → ls.map lineOf = cs.map some → lineOf l = none →
    ∀ (G' : DH) d, Sub G G' → G' d = some (.xd [("row", .int (ls.length : Nat))]) → EX (.ref C) (some d) G'
def sd__law_number : SpD := fun ds G R _ => ∃ (w : List Nat) (lo hi : Nat), ds = [.str (S w), .int (lo : Int), .int (hi : Int)] ∧ w.length ≤ big ∧ R (oN (lnum w lo hi)) G
def sd__law_line : SpD := fun ds G R _ => ∃ l : List Nat, ds = [.str (S l)] ∧ l.length ≤ big ∧ R (callO (lineOf l)) G
def sd__law_changed : SpD := fun ds G R _ => ∃ (a : Addr) (l : List D) (t : List Nat), ds = [.ref a, .str (S t)] ∧ G a = some (.lst l) ∧ Draws l ∧ t.length + 40 ≤ big ∧
  ∀ (t' : List Nat) l', t'.length ≤ t.length + 40 → Draws l' → R (.str (S t')) (updD G a (.lst l'))
def sd__law_is_right : SpD := fun ds G R _ => ∃ t : List Nat, ds = [.str (S t)] ∧ t.length ≤ big ∧ R (.bl true) G
/-- a tuple of a guest list's form -/
def isGuests (xs : List D) : Prop := ∃ gs : List Nat, xs = gs.map (fun n : Nat => .int (n : Int)) ∧ GFit gs
def sd_need_hand (C : Addr) : SpD := fun ds G R EX => ∃ x : D, ds = [x] ∧ Pl.Atom x ∧ (Pl.btw x 0 7 = true → R .non G) ∧ (Pl.btw x 0 7 = false → EX (.ref C) none G)
def sd_need_guests (C : Addr) : SpD := fun ds G R EX => ∃ xs : List D, ds = [.tup xs] ∧ (∀ x ∈ xs, Pl.Atom x) ∧ xs.length ≤ 1000 ∧ (isGuests xs → R .non G) ∧ (¬ isGuests xs → EX (.ref C) none G)
def lineD (c : List Nat × List Nat) : D := .str (S (lineT c.1 c.2))
def sd_written (CP CH : Addr) : SpD := fun ds G R EX => ∃ (cs : List (List Nat × List Nat)) (tail : List D), ds = [.rol (cs.map callD ++ tail)] ∧ (∀ c ∈ cs, PFit c.1 ∧ GFit c.2) ∧ cs.length ≤ 100 ∧
  ((tail = [] ∧ R (.str (S (textT cs))) G) ∨
   ∃ (p gs rest : List D), tail = .tup [.tup p, .tup gs] :: rest ∧ (∀ x ∈ p, Pl.Atom x) ∧ (∀ x ∈ gs, Pl.Atom x) ∧ gs.length ≤ 1000 ∧
     ((Pl.isPlan p = false ∧ ∀ G', Sub G G' → EX (.ref CP) none G') ∨
     (Pl.isPlan p = true ∧ ¬ isGuests gs ∧ ∀ G', Sub G G' → EX (.ref CH) none G')))
end K17
/-! ### k17: readings -/
namespace K17
open PySem PySem.Spec PyProof.Rows L2 Cc Pl
def b_need_hand (C_BadHand : Addr) : DSt :=
  (sIf (dNot (dTest (dCall Pl.sd_is_between (dCons (dVar 0) (dCons (dC (.int 0)) (dCons (dOp dSub (dC (.int 8)) (dC (.int 1))) dNil)))))) (sRaise C_BadHand) sNext)
abbrev N_need_hand : List Str := ["number"]
def b_need_guests (C_BadHand : Addr) : DSt :=
  (sSeq (sIf (dOr (dNot (dTest (dCB dIsi (dCons (dVar 0) (dCons (dC (.ty "tuple")) dNil))))) (dTest (dOp dGt (dCB dLen (dCons (dVar 0) dNil)) (dC (.int 6))))) (sRaise C_BadHand) sNext)
  (sSeq (sFor (iSq (dVar 0)) (gN 1) (sDrop (dCall (sd_need_hand C_BadHand) (dCons (dVar 1) dNil))))
  (sIf (dTest (dOp dNe (dCB dListF (dCons (dVar 0) dNil)) (dSortSetTu (dVar 0)))) (sRaise C_BadHand) sNext)))
abbrev N_need_guests : List Str := ["guests", "hand"]
def writB (C_BadHand : Addr) (C_BadPlan : Addr) : DSt :=
  (sSeq (sDrop (dCall (Pl.sd_need_plan C_BadPlan) (dCons (dVar 2) dNil)))
  (sSeq (sDrop (dCall (sd_need_guests C_BadHand) (dCons (dVar 3) dNil)))
  (sSeq (sAsg (dLcF (iSq (dVar 2)) (gN 5) dYes (dCB dStrI (dCons (dVar 5) dNil)) [5]) (gN 4))
  (sDrop (dBM "list" mAppend (dVar 1) (dCons (dBM "str" mJoin (dC (.str " ")) (dCons (dOp dAddF (dVar 4) (dLstF (dCons (dIf (dTest (dOp dNe (dVar 3) (dTup dNil))) (dBM "str" mJoin (dC (.str ",")) (dCons (dLcF (iSq (dVar 3)) (gN 6) dYes (dCB dStrI (dCons (dVar 6) dNil)) [6]) dNil)) (dC (.str "-"))) dNil))) dNil)) dNil))))))
def b_written (C_BadHand : Addr) (C_BadPlan : Addr) : DSt :=
  (sSeq (sAsg (dLst dNil) (gN 1))
  (sSeq (sFor (iSq (dVar 0)) (gT 2 (gsCons (gN 2) (gsCons (gN 3) gsNil))) (writB C_BadHand C_BadPlan))
  (sFz 1 (sRet (dBM "str" mJoin (dC (.str "\n")) (dCons (dVar 1) dNil))))))
abbrev N_written : List Str := ["calls", "rows", "plan", "guests", "words", "part", "hand"]
def b_number_of : DSt :=
  (sSeq (sIf (dOr (dNot (dTest (dChain dLe dLe (dC (.int 1)) (dCB dLen (dCons (dVar 0) dNil)) (dC (.int 3))))) (dTest (dOp dNeE (dLcF (iStrD (dVar 0)) (gN 1) (dTest (dOp dNotIn (dVar 1) (dC (.str "0123456789")))) (dVar 1) [1]) (dLstF dNil)))) (sRet (dC .non)) sNext)
  (sRet (dIf (dOr (dTest (dOp dEq (dVar 0) (dC (.str "0")))) (dTest (dOp dNe (dOp dIx (dVar 0) (dC (.int 0))) (dC (.str "0"))))) (dCB dIntS (dCons (dVar 0) dNil)) (dC .non))))
abbrev N_number_of : List Str := ["word", "sign"]
def b_guests_of : DSt :=
  (sSeq (sIf (dTest (dOp dEq (dVar 0) (dC (.str "-")))) (sRet (dTup dNil)) sNext)
  (sSeq (sAsg (dLcF (iSq (dSplitF (dVar 0) (dC (.str ",")))) (gN 2) dYes (dCall sd_number_of (dCons (dVar 2) dNil)) [2]) (gN 1))
  (sSeq (sIf (dOr (dTest (dOp dIn (dC .non) (dVar 1))) (dOr (dTest (dOp dGt (dCB dLen (dCons (dVar 1) dNil)) (dC (.int 6)))) (dTest (dOp dNe (dVar 1) (dSortSetL (dVar 1)))))) (sRet (dC .non)) sNext)
  (sRet (dIf (dTest (dOp dLt (dOp dIx (dVar 1) (dUn dNeg (dC (.int 1)))) (dC (.int 8)))) (dCB dTupC (dCons (dVar 1) dNil)) (dC .non))))))
abbrev N_guests_of : List Str := ["word", "found", "part"]
def readB (C_BadText : Addr) : DSt :=
  (sSeq (sAsg (dSplitF (dVar 3) (dC (.str " "))) (gN 4))
  (sSeq (sAsg (dCB dTupC (dCons (dLcF (iSq (dSl sSlF (dVar 4) oNo (oSome (dUn dNeg (dC (.int 1)))))) (gN 6) dYes (dCall sd_number_of (dCons (dVar 6) dNil)) [6]) dNil)) (gN 5))
  (sSeq (sAsg (dCall sd_guests_of (dCons (dOp dIx (dVar 4) (dUn dNeg (dC (.int 1)))) dNil)) (gN 7))
  (sSeq (sIf (dOr (dNot (dTest (dCall Pl.sd_is_plan (dCons (dVar 5) dNil)))) (dTest (dOp dIsN (dVar 7) (dC .non)))) (sRaiseT C_BadText "row" (dVar 2)) sNext)
  (sDrop (dBM "list" mAppend (dVar 1) (dCons (dTup (dCons (dVar 5) (dCons (dVar 7) dNil))) dNil)))))))
def b_read (C_BadText : Addr) : DSt :=
  (sSeq (sAsg (dLst dNil) (gN 1))
  (sSeq (sFor (iEnumD (dIf (dTest (dOp dNe (dVar 0) (dC (.str "")))) (dSplitR (dVar 0) (dC (.str "\n"))) (dLst dNil))) (gT 2 (gsCons (gN 2) (gsCons (gN 3) gsNil))) (readB C_BadText))
  (sRet (dVar 1))))
abbrev N_read : List Str := ["text", "found", "row", "line", "words", "plan", "word", "guests"]
def b__law_number : DSt :=
  (sSeq (sIf (dOr (dTest (dOp dEq (dVar 0) (dC (.str "")))) (dOr (dTest (dOp dNeE (dLcF (iStrD (dVar 0)) (gN 3) (dTest (dOp dNotIn (dVar 3) (dC (.str "0123456789")))) (dVar 3) [3]) (dLstF dNil))) (dTest (dOp dGt (dCB dLen (dCons (dVar 0) dNil)) (dC (.int 9)))))) (sRet (dC .non)) sNext)
  (sRet (dIf (dAnd (dTest (dOp dEq (dCB dStrI (dCons (dCB dIntS (dCons (dVar 0) dNil)) dNil)) (dVar 0))) (dTest (dChain dLe dLe (dVar 1) (dCB dIntS (dCons (dVar 0) dNil)) (dVar 2)))) (dCB dIntS (dCons (dVar 0) dNil)) (dC .non))))
abbrev N__law_number : List Str := ["_law_word", "_law_low", "_law_high", "_law_sign"]
def lineE : DSt :=
  (sSeq (sIf (dOr (dTest (dOp dIn (dC .non) (dVar 3))) (dOr (dTest (dOp dIn (dC .non) (dVar 5))) (dOr (dTest (dOp dGt (dCB dLen (dCons (dVar 5) dNil)) (dC (.int 6)))) (dTest (dOp dNe (dVar 5) (dSortSetL (dVar 5))))))) (sRet (dC .non)) sNext)
  (sRet (dTup (dCons (dCB dTupC (dCons (dVar 3) dNil)) (dCons (dCB dTupC (dCons (dVar 5) dNil)) dNil)))))
def b__law_line : DSt :=
  (sSeq (sAsg (dSplitF (dVar 0) (dC (.str " "))) (gN 1))
  (sSeq (sIf (dTest (dOp dNe (dCB dLen (dCons (dVar 1) dNil)) (dC (.int 5)))) (sRet (dC .non)) sNext)
  (sSeq (sAsg (dLstF (dCons (dTup (dCons (dC (.int 0)) (dCons (dC (.int 999)) dNil))) (dCons (dTup (dCons (dC (.int 1)) (dCons (dC (.int 50)) dNil))) (dCons (dTup (dCons (dC (.int 1)) (dCons (dC (.int 100)) dNil))) (dCons (dTup (dCons (dC (.int 1)) (dCons (dC (.int 12)) dNil))) dNil))))) (gN 2))
  (sSeq (sAsg (dLcF (iRange1 (dC (.int 4))) (gN 4) dYes (dCall sd__law_number (dCons (dOp dIx (dVar 1) (dVar 4)) (dCons (dOp dIx (dOp dIx (dVar 2) (dVar 4)) (dC (.int 0))) (dCons (dOp dIx (dOp dIx (dVar 2) (dVar 4)) (dC (.int 1))) dNil)))) [4]) (gN 3))
  (sSeq (sAsg (dIf (dTest (dOp dEq (dOp dIx (dVar 1) (dC (.int 4))) (dC (.str "-")))) (dLstF dNil) (dLcF (iSq (dSplitF (dOp dIx (dVar 1) (dC (.int 4))) (dC (.str ",")))) (gN 6) dYes (dCall sd__law_number (dCons (dVar 6) (dCons (dC (.int 0)) (dCons (dC (.int 7)) dNil)))) [6])) (gN 5))
  lineE)))))
abbrev N__law_line : List Str := ["_law_line_here", "_law_words", "_law_bounds", "_law_plan_here", "_law_k", "_law_guests", "_law_part"]
def chgE : DSt :=
  (sRet (dBM "str" mJoin (dC (.str "\n")) (dCons (dOp dAddF (dOp dAddF (dSl sSlF (dVar 2) oNo (oSome (dVar 3))) (dLstF (dCons (dBM "str" mJoin (dC (.str " ")) (dCons (dVar 4) dNil)) dNil))) (dSl sSlF (dVar 2) (oSome (dOp dAddF (dVar 3) (dC (.int 1)))) oNo)) dNil)))
def chgI : DSt :=
  (sIf (dTest (dOp dEq (dVar 8) (dC (.int 0)))) (sAsg (dOp dAddF (dSl sSlF (dVar 4) oNo (oSome (dVar 5))) (dSl sSlF (dVar 4) (oSome (dOp dAddF (dVar 5) (dC (.int 1)))) oNo)) (gN 4)) (sIf (dTest (dOp dLt (dVar 8) (dC (.int 3)))) (sAsg (dOp dAddF (dOp dAddF (dSl sSlF (dVar 4) oNo (oSome (dVar 5))) (dLstF (dCons (dVar 7) dNil))) (dSl sSlF (dVar 4) (oSome (dOp dSub (dOp dAddF (dVar 5) (dVar 8)) (dC (.int 1)))) oNo)) (gN 4)) (sSeq (sAsg (dCB dMin2 (dCons (dVar 5) (dCons (dOp dSub (dCB dLen (dCons (dVar 4) dNil)) (dC (.int 1))) dNil))) (gN 5))
  (sAsg (dOp dAddF (dOp dIx (dVar 4) (dVar 5)) (dOp dIx (dLstF (dCons (dC (.str ",")) (dCons (dC (.str "0")) (dCons (dC (.str ",7")) (dCons (dC (.str "-")) dNil))))) (dCall sd__law_off (dCons (dVar 0) (dCons (dC (.int 4)) dNil))))) (gS (dVar 4) (dVar 5) dSetL)))))
def b__law_changed : DSt :=
  (sSeq (sAsg (dSplitF (dVar 1) (dC (.str "\n"))) (gN 2))
  (sSeq (sAsg (dCall sd__law_off (dCons (dVar 0) (dCons (dCB dLen (dCons (dVar 2) dNil)) dNil))) (gN 3))
  (sSeq (sAsg (dSplitR (dOp dIx (dVar 2) (dVar 3)) (dC (.str " "))) (gN 4))
  (sSeq (sAsg (dCall sd__law_off (dCons (dVar 0) (dCons (dOp dAddF (dCB dLen (dCons (dVar 4) dNil)) (dC (.int 1))) dNil))) (gN 5))
  (sSeq (sAsg (dLstF (dCons (dC (.str "")) (dCons (dC (.str "-")) (dCons (dC (.str "0")) (dCons (dC (.str "00")) (dCons (dC (.str "1000")) (dCons (dC (.str "999")) (dCons (dC (.str "13")) (dCons (dC (.str "51")) (dCons (dC (.str "101")) (dCons (dC (.str "1,2")) (dCons (dC (.str "2,1")) (dCons (dC (.str "1,1")) (dCons (dC (.str "8")) (dCons (dC (.str "0,1,2,3,4,5,6")) (dCons (dC (.str "-1")) dNil)))))))))))))))) (gN 6))
  (sSeq (sAsg (dOp dIx (dOp dAddF (dVar 6) (dLstF (dCons (dC (.str "x")) (dCons (dC (.str "1,")) dNil)))) (dCall sd__law_off (dCons (dVar 0) (dCons (dC (.int 17)) dNil)))) (gN 7))
  (sSeq (sAsg (dCall sd__law_off (dCons (dVar 0) (dCons (dC (.int 4)) dNil))) (gN 8))
  (sSeq chgI
  (sFz 4 chgE)))))))))
abbrev N__law_changed : List Str := ["_law_d", "_law_text", "_law_lines", "_law_at", "_law_words", "_law_k", "_law_odd", "_law_word", "_law_kind"]
def rightB (C_BadText : Addr) (okR : Str → Addr → Option Int → Prop) : DSt :=
  (sSeq (sAsg (dCall sd__law_line (dCons (dOp dIx (dVar 2) (dVar 3)) dNil)) (gN 4))
  (sSeq (sIf (dTest (dOp dIsN (dVar 4) (dC .non))) (sRet (dRefG okR (dCall (sd_read C_BadText) (dCons (dVar 0) dNil)) (fun _ d => d = .str "text") (fun δ d => δ[3]? = some (some d)))) sNext)
  (sDrop (dBM "list" mAppend (dVar 1) (dCons (dVar 4) dNil)))))
def rightE (C_BadText : Addr) : DSt :=
  (sRet (dCall (sd__law_alike 6) (dCons (dCall (sd_read C_BadText) (dCons (dVar 0) dNil)) (dCons (dVar 1) dNil))))
def b__law_is_right (C_BadText : Addr) (okR : Str → Addr → Option Int → Prop) : DSt :=
  (sSeq (sAsg (dLst dNil) (gN 1))
  (sSeq (sAsg (dIf (dTest (dOp dNe (dVar 0) (dC (.str "")))) (dSplitF (dVar 0) (dC (.str "\n"))) (dLstF dNil)) (gN 2))
  (sSeq (sFor (iRange1 (dCB dLen (dCons (dVar 2) dNil))) (gN 3) (rightB C_BadText okR))
  (sFz 1 (rightE C_BadText)))))
abbrev N__law_is_right : List Str := ["_law_text", "_law_found", "_law_lines", "_law_number_here", "_law_call"]
def lwCallB : DSt :=
  (sDrop (dBM "list" mAppend (dVar 3) (dCons (dTup (dCons (dCall Lw.sd__law_plan (dCons (dVar 1) dNil)) (dCons (dCB dTupC (dCons (dCB dSortedF (dCons (dSl sSlF (dCall Lw.sd__law_mixed (dCons (dVar 1) (dCons (dListRg (dC (.int 8))) dNil))) oNo (oSome (dCall sd__law_off (dCons (dVar 1) (dCons (dC (.int 7)) dNil))))) dNil)) dNil)) dNil))) dNil)))
def lwLineE : DSt :=
  (sDrop (dBM "list" mAppend (dVar 5) (dCons (dBM "str" mJoin (dC (.str " ")) (dCons (dOp dAddF (dLcF (iSq (dVar 6)) (gN 10) dYes (dCB dStrI (dCons (dVar 10) dNil)) [10]) (dLstF (dCons (dVar 8) dNil))) dNil)) dNil)))
def lwLineB : DSt :=
  (sSeq (sAsg (dIf (dTest (dOp dNe (dVar 7) (dTup dNil))) (dBM "str" mJoin (dC (.str ",")) (dCons (dLcF (iSq (dVar 7)) (gN 9) dYes (dCB dStrI (dCons (dVar 9) dNil)) [9]) dNil)) (dC (.str "-"))) (gN 8))
  lwLineE)
def lwBadB : DSt :=
  (sAsg (dCall sd__law_changed (dCons (dVar 1) (dCons (dVar 13) dNil))) (gN 13))
def lwT14 (C_BadHand : Addr) (C_BadPlan : Addr) (okR : Str → Addr → Option Int → Prop) : DSt :=
  (sSeq (sAsg (dOp dAddF (dOp dAddF (dOp dAddF (dSl sSlF (dVar 3) oNo (oSome (dVar 15))) (dLstF (dCons (dVar 16) dNil))) (dSl sSlF (dVar 3) (oSome (dVar 15)) oNo)) (dRepL (dCons (dTup (dCons (dTup (dCons (dC (.int 0)) (dCons (dC (.int 1)) (dCons (dC (.int 1)) (dCons (dC (.int 1)) dNil))))) (dCons (dTup (dCons (dUn dNeg (dC (.int 1))) dNil)) dNil))) dNil) (dCall sd__law_off (dCons (dVar 1) (dCons (dC (.int 2)) dNil))))) (gN 13))
  (sIf (dNot (dTest (dRefG okR (dCall (sd_written C_BadPlan C_BadHand) (dCons (dVar 13) dNil)) (fun δ d => δ[17]? = some (some d)) (fun _ d => d = .int 0)))) (sRet (dC (.bl false))) sNext))
def lwT12 (C_BadHand : Addr) (C_BadPlan : Addr) (okR : Str → Addr → Option Int → Prop) : DSt :=
  (sSeq (sAsg (dOp dIx (dLstF (dCons (dTup (dCons (dTup (dCons (dTup (dCons (dC (.int 0)) (dCons (dC (.int 0)) (dCons (dC (.int 1)) (dCons (dC (.int 1)) dNil))))) (dCons (dTup (dCons (dC (.int 9)) dNil)) dNil))) (dCons (dC (.str "plan")) dNil))) (dCons (dTup (dCons (dTup (dCons (dTup (dCons (dC (.int 0)) (dCons (dC (.int 1)) (dCons (dC (.int 1)) (dCons (dC (.int 1)) dNil))))) (dCons (dTup (dCons (dC (.int 8)) dNil)) dNil))) (dCons (dC (.str "hand")) dNil))) (dCons (dTup (dCons (dTup (dCons (dTup dNil) (dCons (dTup dNil) dNil))) (dCons (dC (.str "plan")) dNil))) dNil)))) (dCall sd__law_off (dCons (dVar 1) (dCons (dC (.int 3)) dNil)))) (gT 2 (gsCons (gN 16) (gsCons (gN 17) gsNil))))
  (sSeq (sIf (dTest (dOp dGt (dCall sd__law_off (dCons (dVar 1) (dCons (dC (.int 3)) dNil))) (dC (.int 0)))) (sSeq (sAsg (dLstF (dCons (dTup (dCons (dC (.int 5)) (dCons (dC (.int 1)) dNil))) (dCons (dTup (dCons (dC (.int 1)) (dCons (dC (.int 1)) dNil))) (dCons (dTup (dCons (dC (.int 0)) (dCons (dC (.int 1)) (dCons (dC (.int 2)) (dCons (dC (.int 3)) (dCons (dC (.int 4)) (dCons (dC (.int 5)) (dCons (dC (.int 6)) dNil)))))))) (dCons (dTup (dCons (dC (.int 7)) (dCons (dC (.int 0)) dNil))) (dCons (dTup (dCons (dUn dNeg (dC (.int 1))) dNil)) (dCons (dTup (dCons (dC (.bl true)) dNil)) (dCons (dTup (dCons (dC (.int 1)) (dCons (dC (.int 3)) (dCons (dC (.int 2)) dNil)))) (dCons (dTup (dCons (dC (.int 0)) (dCons (dC (.int 2)) (dCons (dC (.int 2)) dNil)))) (dCons (dTup (dCons (dC (.str "1")) dNil)) dNil)))))))))) (gN 18))
  (sPar2 16 17 (dCons (dTup (dCons (dTup (dCons (dC (.int 0)) (dCons (dC (.int 1)) (dCons (dC (.int 1)) (dCons (dC (.int 1)) dNil))))) (dCons (dOp dIx (dVar 18) (dCall sd__law_off (dCons (dVar 1) (dCons (dC (.int 9)) dNil)))) dNil))) (dCons (dC (.str "hand")) dNil)))) sNext)
  (lwT14 C_BadHand C_BadPlan okR)))
def lwT11 (C_BadHand : Addr) (C_BadPlan : Addr) (okR : Str → Addr → Option Int → Prop) : DSt :=
  (sSeq (sAsg (dCall sd__law_off (dCons (dVar 1) (dCons (dOp dAddF (dCB dLen (dCons (dVar 3) dNil)) (dC (.int 1))) dNil))) (gN 15))
  (lwT12 C_BadHand C_BadPlan okR))
def lwT8 (C_BadHand : Addr) (C_BadPlan : Addr) (okR : Str → Addr → Option Int → Prop) : DSt :=
  (sSeq (sAsg (dVar 11) (gN 13))
  (sSeq (sFor (iRange1 (dOp dAddF (dC (.int 1)) (dCall sd__law_off (dCons (dVar 1) (dCons (dC (.int 2)) dNil))))) (gN 14) lwBadB)
  (sSeq (sIf (dNot (dTest (dCall sd__law_is_right (dCons (dVar 13) dNil)))) (sRet (dC (.bl false))) sNext)
  (lwT11 C_BadHand C_BadPlan okR))))
def lwT6 (C_BadHand : Addr) (C_BadPlan : Addr) (C_BadText : Addr) (okR : Str → Addr → Option Int → Prop) : DSt :=
  (sSeq (sIf (dOr (dNot (dTest (dCall (sd__law_alike 6) (dCons (dCall (sd_written C_BadPlan C_BadHand) (dCons (dVar 12) dNil)) (dCons (dVar 11) dNil))))) (dOr (dTest (dOp dNe (dVar 12) (dVar 3))) (dNot (dTest (dCall (sd__law_alike 6) (dCons (dCall (sd_read C_BadText) (dCons (dVar 11) dNil)) (dCons (dVar 3) dNil))))))) (sRet (dC (.bl false))) sNext)
  (sSeq (sDrop (dBM "list" mAppend (dCall (sd_read C_BadText) (dCons (dVar 11) dNil)) (dCons (dTup dNil) dNil)))
  (lwT8 C_BadHand C_BadPlan okR)))
def lwTurnB (C_BadHand : Addr) (C_BadPlan : Addr) (C_BadText : Addr) (okR : Str → Addr → Option Int → Prop) : DSt :=
  (sSeq (sAsg (dLst dNil) (gN 3))
  (sSeq (sFor (iRange1 (dCall sd__law_off (dCons (dVar 1) (dCons (dOp dIx (dLstF (dCons (dC (.int 9)) (dCons (dC (.int 9)) (dCons (dC (.int 9)) (dCons (dC (.int 31)) dNil))))) (dCall sd__law_off (dCons (dVar 1) (dCons (dC (.int 4)) dNil)))) dNil)))) (gN 4) lwCallB)
  (sSeq (sAsg (dLst dNil) (gN 5))
  (sSeq (sFz 3 (sFor (iSq (dVar 3)) (gT 2 (gsCons (gN 6) (gsCons (gN 7) gsNil))) lwLineB))
  (sSeq (sFz 5 (sAsg (dBM "str" mJoin (dC (.str "\n")) (dCons (dVar 5) dNil)) (gN 11)))
  (sSeq (sAsg (dCB dListF (dCons (dVar 3) dNil)) (gN 12))
  (lwT6 C_BadHand C_BadPlan C_BadText okR)))))))
def lwE (C_BadText : Addr) (okR : Str → Addr → Option Int → Prop) : DSt :=
  (sRet (dAndV (dCall (sd__law_alike 6) (dCons (dCall (sd_read C_BadText) (dCons (dC (.str "")) dNil)) (dCons (dLstF dNil) dNil))) (dRefG okR (dCall (sd_read C_BadText) (dCons (dC (.str "\n")) dNil)) (fun _ d => d = .str "text") (fun _ d => d = .int 0))))
def b_law (C_BadHand : Addr) (C_BadPlan : Addr) (C_BadText : Addr) (okR : Str → Addr → Option Int → Prop) : DSt :=
  (sSeq (sAsg (dCall sd__law_dice (dCons (dVar 0) (dCons (dC (.int 0)) dNil))) (gN 1))
  (sSeq (sFor (iRange1 (dC (.int 4))) (gN 2) (lwTurnB C_BadHand C_BadPlan C_BadText okR))
  (lwE C_BadText okR)))
abbrev N_law : List Str := ["_law_script", "_law_d", "_law_turn", "_law_calls", "_law_call", "_law_lines", "_law_plan_here", "_law_guests", "_law_last", "_law_hand", "_law_part", "_law_text", "_law_handed", "_law_bad", "_law_change", "_law_at", "_law_odd", "_law_word", "_law_some"]
end K17
/-! ### k17: numbers and guests, walked -/
namespace K17
open PySem PySem.Spec PyProof.Rows L2 Cc TL
open SX (S)
open PySem.NumText (AllDigits digitsVal)
theorem S_len (w : List Nat) : (S w).length = w.length := by simp [Str.length]
theorem dLen_S {w : List Nat} {G : DH} {R : DK} (hw : w.length ≤ big) (q : R (.int (w.length : Nat)) G) : dLen [.str (S w)] G R := by
  unfold dLen lenOf
  dsimp only
  have e : (S w).length = w.length := S_len w
  have hz : w.length ≤ sizeLine := by rw [sizeLine_eq]; unfold big at hw; omega
  first
    | (rw [if_pos (by rw [e]; exact hz)]; rw [e]; exact q)
    | (rw [e]; exact q)
    | (rw [e]; exact ⟨hz, q⟩)
/-- the signs that are no figures -/
def noFig (w : List Nat) : List D := w.filterMap fun c => if 48 ≤ c ∧ c ≤ 57 then none else some (.str ⟨#[c]⟩)
theorem noFig_nil {w : List Nat} : (noFig w).isEmpty = true ↔ AllDigits w := by
  unfold noFig
  rw [List.isEmpty_iff, List.filterMap_eq_nil_iff]
  constructor
  · intro h c hc
    have := h c hc
    split at this
    · assumption
    · cases this
  · intro h c hc
    rw [if_pos (h c hc)]
theorem fig_mem (c : Nat) : decide (c ∈ ("0123456789" : Str).cps.toList) = decide (48 ≤ c ∧ c ≤ 57) := by
  have e : ("0123456789" : Str).cps.toList = [48, 49, 50, 51, 52, 53, 54, 55, 56, 57] := by decide +kernel
  rw [e]
  apply decide_eq_decide.mpr
  simp only [List.mem_cons, List.not_mem_nil, or_false]
  omega
theorem figs_at {G : DH} {w : List Nat} {j : Nat} {δ : DS} {K : DK} (hw : w.length ≤ big) (hj : j < δ.length) (q : K (.rol (noFig w)) G) :
    goLcF (fun _ => True) (gN j) (dTest (dOp dNotIn (dVar j) (dC (.str "0123456789")))) (dVar j) (fun l G2 => K (.rol l) G2) δ [] (Cc.signs (S w)) G := by
  unfold Cc.signs
  refine goLcF_map (ok := fun _ => True) (G := G) (f := fun c : Nat => D.str ⟨#[c]⟩) (fun c : Nat => if 48 ≤ c ∧ c ≤ 57 then none else some (.str ⟨#[c]⟩)) trivial (fun c C1 C2 hC => ?_) _ [] (by
    have : (S w).cps.toList.length = w.length := by simp
    rw [List.length_nil, Nat.zero_add, this, sizeLine_eq]
    unfold big at hw
    omega) ?_
  · walk_at "rd"
    have hv : (δ.set j (some (.str ⟨#[c]⟩)))[j]? = some (some (.str ⟨#[c]⟩)) := by
      rw [List.getElem?_set_self hj]
    rw [hv]
    dsimp only
    unfold dNotIn inOf
    dsimp only
    rw [if_pos (show (#[c] : Array Nat).size = 1 from rfl)]
    have e : decide ([c].headD 0 ∈ ("0123456789" : Str).cps.toList) = decide (48 ≤ c ∧ c ≤ 57) := fig_mem c
    rw [e]
    by_cases h : 48 ≤ c ∧ c ≤ 57
    · rw [if_pos h] at hC
      rw [decide_eq_true h]
      walk_at "rd"
      exact hC
    · rw [if_neg h] at hC
      rw [decide_eq_false h]
      walk_at "rd"
      exact hC
  · show K (.rol ([] ++ _)) G
    rw [List.nil_append]
    exact q
theorem dIntS_S {w : List Nat} {G : DH} {R : DK} (hd : AllDigits w) (hn : w ≠ []) (hl : w.length ≤ 640) (q : R (.int (valL w : Nat)) G) : dIntS [.str (S w)] G R := by
  unfold dIntS
  dsimp only
  exact ⟨_, intText_digits (x := S w) hd hn (by rw [S_len]; omega), by rw [S_len]; exact hl, q⟩
theorem S_inj {a b : List Nat} (h : S a = S b) : a = b := by
  have := congrArg tl h
  exact this
theorem S_zero : (Str.ofString "0") = S [48] := by decide +kernel
theorem S_dash : (Str.ofString "-") = S [45] := by decide +kernel
theorem S_nil : (Str.ofString "") = S [] := by decide +kernel
theorem pure_number_of (ds : List D) (G : DH) (R : DK) (EX : DX) (h : sd_number_of ds G R EX) : b_number_of (endsD (frg R) EX) (startD N_number_of ds) G := by
  obtain ⟨w, rfl, hw, q⟩ := h
  show b_number_of (endsD (frg R) EX) [some (.str (S w)), none] G
  have q := frg_of q
  unfold b_number_of
  walk_at "rd"
  refine dLen_S hw ?_
  walk_at "rd"
  unfold dLcF iStrD
  walk_at "rd"
  have no : (¬ (1 ≤ w.length ∧ w.length ≤ 3 ∧ AllDigits w) → frg R .non G) := fun h => by
    have e : pnum w = none := by
      unfold pnum
      rw [if_neg fun x => h x.1]
    rw [e] at q
    exact q
  by_cases h1 : 1 ≤ w.length
  · rw [if_pos (by omega)]
    by_cases h3 : w.length ≤ 3
    · rw [if_neg (by simp; omega)]
      refine figs_at (K := fun d G2 => dNeE d (.rol []) G2 _) hw (by simp) ?_
      rw [vneE_rol]
      walk_at "rd"
      by_cases hd : AllDigits w
      · rw [if_neg (by rw [noFig_nil.mpr hd]; simp)]
        have hne : w ≠ [] := by intro e; rw [e] at h1; simp at h1
        by_cases h0 : w = [48]
        · rw [if_pos (by rw [h0, S_zero])]
          refine dIntS_S hd hne (by omega) ?_
          unfold pnum at q
          rw [if_pos ⟨⟨h1, h3, hd⟩, .inl h0⟩] at q
          exact q
        · rw [if_neg (by rw [S_zero]; exact fun h => h0 (S_inj h))]
          cases w with
          | nil => exact absurd rfl hne
          | cons c r =>
            have e1 : itemOf G (.str (S (c :: r))) (.int 0) = some (.str ⟨#[c]⟩) := by
              unfold itemOf
              dsimp only
              rw [if_pos (by rw [S_len, sizeLine_eq]; unfold big at hw; omega)]
              rw [show L2.atI (S (c :: r)).cps.toList 0 = some c from atI_nat (l := c :: r) (i := 0) rfl]
              rfl
            unfold dIx
            rw [e1]
            dsimp only
            show (if (!decide ((⟨#[c]⟩ : Str) = Str.ofString "0")) = true then dIntS [.str (S (c :: r))] G (frg R) else frg R .non G)
            by_cases hc : c = 48
            · subst hc
              rw [if_neg (by rw [S_zero]; simp)]
              have e : pnum (48 :: r) = none := by
                unfold pnum
                rw [if_neg]
                rintro ⟨-, hx | hx⟩
                · exact h0 hx
                · exact hx rfl
              rw [e] at q
              exact q
            · rw [if_pos (by
                rw [S_zero]
                have : ¬ ((⟨#[c]⟩ : Str) = S [48]) := fun h => hc (by
                  have h2 : [c] = [48] := S_inj (a := [c]) h
                  injection h2)
                rw [decide_eq_false this]
                rfl)]
              refine dIntS_S hd hne (by omega) ?_
              unfold pnum at q
              rw [if_pos ⟨⟨h1, h3, hd⟩, .inr (by
                intro h
                injection h with h
                exact hc h)⟩] at q
              exact q
      · rw [if_pos (by rw [Bool.not_eq_true', ← Bool.not_eq_true]; exact fun h => hd (noFig_nil.mp h))]
        exact no fun h => hd h.2.2
    · rw [if_pos (by simp; omega)]
      exact no fun h => h3 h.2.1
  · rw [if_neg (by omega)]
    exact no fun h => h1 h.1
end K17
/-! ### k17: need_hand, need_guests, guests_of, walked -/
namespace K17
open PySem PySem.Spec PyProof.Rows L2 Cc TL
open SX (S)
open PySem.NumText (AllDigits digitsVal)
/-! texts -/
theorem join_len (c : Nat) : ∀ {ps : List (List Nat)}, ps ≠ [] → (joinL [c] ps).length + 1 = (ps.map fun p => p.length + 1).sum
  | [], h => absurd rfl h
  | [p], _ => by show p.length + 1 = _; simp
  | p :: q :: r, _ => by
    have i := join_len c (ps := q :: r) (by simp)
    show (p ++ ([c] ++ joinL [c] (q :: r))).length + 1 = _
    rw [List.map_cons, List.sum_cons, ← i]
    simp
    omega
theorem le_sum {f : List Nat → Nat} : ∀ {ps : List (List Nat)} {q : List Nat}, q ∈ ps → f q ≤ (ps.map f).sum
  | p :: ps, q, h => by
    rw [List.map_cons, List.sum_cons]
    rcases List.mem_cons.mp h with rfl | h
    · omega
    · have := le_sum (f := f) h
      omega
theorem num_sum : ∀ ps : List (List Nat), ps.length ≤ (ps.map fun p => p.length + 1).sum
  | [] => by simp
  | p :: ps => by
    have := num_sum ps
    rw [List.map_cons, List.sum_cons, List.length_cons]
    omega
theorem spl_sum (c : Nat) (l : List Nat) : ((spl [c] 0 [] l).map fun p => p.length + 1).sum = l.length + 1 := by
  rw [← join_len c (spl_ne c l), join_spl]
theorem spl_len {c : Nat} {l q : List Nat} (h : q ∈ spl [c] 0 [] l) : q.length ≤ l.length := by
  have a := le_sum (f := fun p => p.length + 1) h
  rw [spl_sum] at a
  omega
theorem spl_num (c : Nat) (l : List Nat) : (spl [c] 0 [] l).length ≤ l.length + 1 := by
  have a := num_sum (spl [c] 0 [] l)
  rw [spl_sum] at a
  exact a
def strS (l : List Nat) : D := .str (S l)
theorem split_c {c : Nat} (hc : c < 256) (t : List Nat) : (Txt.split (S t) (S [c])).map D.str = (spl [c] 0 [] t).map strS := by
  rw [SX.split_S (by simp) (by simp [hc]), List.map_map]
  rfl
theorem str_num (n : Nat) : Str.ofString (toString ((n : Nat) : Int)) = S (numL n) := ext_tl (tl_num n)
theorem vsplitF {t : List Nat} {c : Nat} {z : Str} {i : Nat} {δ : DS} {G : DH} {R : DK} {EX : DX} (hx : δ[i]? = some (some (.str (S t)))) (hz : z = S [c]) (hc : c < 256) (hl : t.length ≤ big) (q : R (.rol ((spl [c] 0 [] t).map strS)) G) : dSplitF (dVar i) (dC (.str z)) δ G R EX := by
  subst hz
  unfold dSplitF dVar dC
  rw [hx]
  refine ⟨S t, rfl, S [c], rfl, by rw [S_len]; rfl, by rw [S_len, sizeLine_eq]; unfold big at hl; omega, ?_⟩
  rw [split_c hc]
  exact q
/-! lists of numbers -/
theorem eqv_ints : ∀ a b : List Int, PyData.eqvAll (a.map .int) (b.map .int) = decide (a = b)
  | [], [] => by simp [PyData.eqvAll]
  | [], _ :: _ => by simp [PyData.eqvAll]
  | _ :: _, [] => by simp [PyData.eqvAll]
  | x :: a, y :: b => by
    rw [List.map_cons, List.map_cons, PyData.eqvAll, eqv_ints a b]
    simp only [PyData.eqv, List.cons.injEq, Bool.decide_and]
    rfl
theorem ints_shaped (a : List Int) : SeqAt.shaped (.list (a.map .int)) = true := shaped_by (by rw [PyData.canLay0]; exact lay_map fun p _ => by simp [PyData.canLay0]) (by
  rw [PyData.depth]
  have : PyData.depthAll (a.map PyData.int) ≤ 1 := dep_map fun p _ => by simp [PyData.depth]
  omega)
theorem ints_shapedT (a : List Int) : SeqAt.shaped (.tuple (a.map .int)) = true := shaped_by (by rw [PyData.canLay0]; exact lay_map fun p _ => by simp [PyData.canLay0]) (by
  rw [PyData.depth]
  have : PyData.depthAll (a.map PyData.int) ≤ 1 := dep_map fun p _ => by simp [PyData.depth]
  omega)
theorem vne_ints {a b : List Int} {G : DH} {R : DK} (q : R (.bl (!decide (a = b))) G) : dNe (.rol (a.map .int)) (.rol (b.map .int)) G R := by
  refine ⟨.list (a.map .int), .list (b.map .int), .rol (rdd_map fun _ _ => .int _), .rol (rdd_map fun _ _ => .int _), ints_shaped a, ints_shaped b, ?_⟩
  rw [PyData.eqv, eqv_ints]
  exact q
theorem vne_tup {a b : List Int} {G : DH} {R : DK} (q : R (.bl (!decide (a = b))) G) : dNe (.tup (a.map .int)) (.tup (b.map .int)) G R := by
  refine ⟨.tuple (a.map .int), .tuple (b.map .int), .tup rfl (rdd_map fun _ _ => .int _), .tup rfl (rdd_map fun _ _ => .int _), ints_shapedT a, ints_shapedT b, ?_⟩
  rw [PyData.eqv, eqv_ints]
  exact q
def natI (n : Nat) : Int := n
def natD (n : Nat) : D := .int (n : Int)
theorem natsI (ns : List Nat) : ns.map natD = (ns.map natI).map D.int := by rw [List.map_map]; rfl
theorem natsD_eq (ns : List Nat) : natsD ns = .tup (ns.map natD) := rfl
theorem nats_rise {ns : List Nat} : (ns.map natI).Pairwise (· < ·) ↔ ns.Pairwise (· < ·) := by
  rw [List.pairwise_map]
  constructor
  · exact List.Pairwise.imp fun h => Int.ofNat_lt.mp h
  · exact List.Pairwise.imp fun h => Int.ofNat_lt.mpr h
theorem rise_eq : ∀ {a b : List Int}, a.Pairwise (· < ·) → b.Pairwise (· < ·) → (∀ k, k ∈ a ↔ k ∈ b) → a = b
  | [], [], _, _, _ => rfl
  | [], y :: b, _, _, h => absurd ((h y).mpr List.mem_cons_self) (by simp)
  | x :: a, [], _, _, h => absurd ((h x).mp List.mem_cons_self) (by simp)
  | x :: a, y :: b, ha, hb, h => by
    obtain ⟨p1, p2⟩ := List.pairwise_cons.mp ha
    obtain ⟨q1, q2⟩ := List.pairwise_cons.mp hb
    have e : x = y := by
      rcases List.mem_cons.mp ((h x).mp List.mem_cons_self) with e | e
      · exact e
      · rcases List.mem_cons.mp ((h y).mpr List.mem_cons_self) with f | f
        · exact f.symm
        · have := p1 y f
          have := q1 x e
          omega
    subst e
    rw [rise_eq p2 q2 fun k => ?_]
    have hk := h k
    rw [List.mem_cons, List.mem_cons] at hk
    constructor
    · intro hm
      rcases hk.mp (.inr hm) with e | e
      · subst e; exact absurd (p1 _ hm) (by omega)
      · exact e
    · intro hm
      rcases hk.mpr (.inr hm) with e | e
      · subst e; exact absurd (q1 _ hm) (by omega)
      · exact e
/-- what is told of numbers that are not sorted(set(..)) of them -/
theorem rise_dec {a qs : List Int} (hq : qs.Pairwise (· < ·)) (hm : ∀ k, k ∈ qs ↔ k ∈ a) : a = qs ↔ a.Pairwise (· < ·) :=
  ⟨fun e => by rw [e]; exact hq, fun ha => rise_eq ha hq fun k => (hm k).symm⟩
theorem ne_sorted {ns : List Nat} {qs : List Int} (hq : qs.Pairwise (· < ·)) (hm : ∀ k, k ∈ qs ↔ k ∈ ns.map natI) : (!decide (ns.map natI = qs)) = !decide (ns.Pairwise (· < ·)) := by
  congr 1
  exact decide_eq_decide.mpr ((rise_dec hq hm).trans nats_rise)
/-! hands -/
theorem pure_need_hand (C : Addr) (ds : List D) (G : DH) (R : DK) (EX : DX) (h : sd_need_hand C ds G R EX) : b_need_hand C (endsD (frg R) EX) (startD N_need_hand ds) G := by
  obtain ⟨x, rfl, ha, q1, q2⟩ := h
  show b_need_hand C (endsD (frg R) EX) [some x] G
  unfold b_need_hand
  walk_at "rd"
  refine ⟨x, 0, 7, rfl, ha, ?_⟩
  walk_at "rd"
  cases e : Pl.btw x 0 7 with
  | true => exact frg_of (q1 e)
  | false => exact q2 e
theorem nats_of : ∀ {xs : List D}, (∀ x ∈ xs, Pl.btw x 0 7 = true) → ∃ ns : List Nat, xs = ns.map natD ∧ ∀ n ∈ ns, n < 8
  | [], _ => ⟨[], rfl, by simp⟩
  | x :: xs, h => by
    obtain ⟨ns, e, hn⟩ := nats_of (xs := xs) fun y hy => h y (List.mem_cons_of_mem _ hy)
    have hx := h x List.mem_cons_self
    unfold Pl.btw at hx
    split at hx
    · rename_i i
      rw [Bool.and_eq_true, decide_eq_true_eq, decide_eq_true_eq] at hx
      refine ⟨i.toNat :: ns, ?_, fun n hm => ?_⟩
      · rw [List.map_cons, ← e]
        congr 1
        show D.int i = D.int ((i.toNat : Nat) : Int)
        congr 1
        omega
      · rcases List.mem_cons.mp hm with rfl | hm
        · omega
        · exact hn n hm
    · cases hx
theorem btw_nat {n : Nat} (h : n < 8) : Pl.btw (natD n) 0 7 = true := by
  unfold natD Pl.btw
  dsimp only
  rw [Bool.and_eq_true, decide_eq_true_eq, decide_eq_true_eq]
  omega
theorem natD_inj {a b : List Nat} (h : a.map natD = b.map natD) : a = b := by
  have : (a.map natD).map (fun d => match d with | .int i => i.toNat | _ => 0) = (b.map natD).map (fun d => match d with | .int i => i.toNat | _ => 0) := by rw [h]
  rw [List.map_map, List.map_map] at this
  simpa [Function.comp_def, natD] using this
theorem pure_need_guests (C : Addr) (ds : List D) (G : DH) (R : DK) (EX : DX) (h : sd_need_guests C ds G R EX) : b_need_guests C (endsD (frg R) EX) (startD N_need_guests ds) G := by
  obtain ⟨xs, rfl, ha, hl, q1, q2⟩ := h
  show b_need_guests C (endsD (frg R) EX) [some (.tup xs), none] G
  unfold b_need_guests
  walk_at "rd"
  by_cases h6 : xs.length ≤ 6
  · rw [if_neg (by simp; omega)]
    unfold sFor
    rw [vsq_tup rfl]
    refine goFor_by (fun ys δ G' => ∃ pre o, xs = pre ++ ys ∧ δ = [some (.tup xs), o] ∧ G' = G ∧ ∀ x ∈ pre, Pl.btw x 0 7 = true) (fun _ _ _ _ => trivial) (fun δ G' ⟨pre, o, ep, eδ, eG, hp⟩ => ?_) (fun x ys δ G' N ⟨pre, o, ep, eδ, eG, hp⟩ hN => ?_) _ _ _ ⟨[], none, rfl, rfl, rfl, by simp⟩
    · subst eδ eG
      rw [List.append_nil] at ep
      subst ep
      obtain ⟨ns, rfl, hn⟩ := nats_of hp
      rw [List.length_map] at h6
      walk_at "rd"
      unfold dSortSetTu
      walk_at "rd"
      rw [natsI]
      refine ⟨ns.map natI, rfl, by rw [List.length_map]; omega, fun qs hq hm => ?_⟩
      refine vne_ints ?_
      rw [ne_sorted hq hm]
      walk_at "rd"
      by_cases hr : ns.Pairwise (· < ·)
      · rw [decide_eq_true hr]
        walk_at "rd"
        exact frg_of (q1 ⟨ns, rfl, hr, h6, hn⟩)
      · rw [decide_eq_false hr]
        walk_at "rd"
        refine q2 ?_
        rintro ⟨gs, e, hg⟩
        have := natD_inj (a := ns) (b := gs) e
        subst this
        exact hr hg.1
    · subst eδ eG
      walk_at "rd"
      have hx : x ∈ xs := by rw [ep]; simp
      refine ⟨x, rfl, ha x hx, fun hb => hN _ _ ⟨pre ++ [x], _, by rw [ep]; simp, rfl, rfl, fun y hy => ?_⟩, fun hb => ?_⟩
      · rcases List.mem_append.mp hy with hy | hy
        · exact hp y hy
        · rw [List.mem_singleton.mp hy]; exact hb
      · refine q2 ?_
        rintro ⟨gs, e, hg⟩
        rw [e] at hx
        obtain ⟨n, hn, rfl⟩ := List.mem_map.mp hx
        have := btw_nat (hg.2.2 n hn)
        rw [show natD n = .int (n : Int) from rfl, hb] at this
        cases this
  · rw [if_pos (by simp; omega)]
    refine q2 ?_
    rintro ⟨gs, e, hg⟩
    have := hg.2.1
    rw [e, List.length_map] at h6
    exact h6 this
/-! a last word's guests -/
theorem gsOf_some {w gs : List Nat} (hn : gs ≠ []) (hg : GFit gs) (e : (spl [44] 0 [] w).map pnum = gs.map some) : gsOf w = some gs := gsOf_iff.mpr ⟨hg, ((guests_p hn).mp e).1⟩
theorem gsOf_none {w : List Nat} (h45 : w ≠ [45]) (h : ∀ gs, gs ≠ [] → GFit gs → (spl [44] 0 [] w).map pnum ≠ gs.map some) : gsOf w = none := by
  cases e : gsOf w with
  | none => rfl
  | some gs =>
    obtain ⟨hg, ew⟩ := gsOf_iff.mp e
    by_cases hn : gs = []
    · subst hn; exact absurd ew h45
    · exact absurd ((guests_p hn).mpr ⟨ew, fun g hm => by have := hg.2.2 g hm; omega⟩) (h gs hn hg)
theorem vin_oN {fs : List (Option Nat)} {G : DH} {R : DK} (q : R (.bl (decide (none ∈ fs))) G) : dIn .non (.rol (fs.map oN)) G R := by
  have h1 : (fs.map oN).all D.flat = true := by
    rw [List.all_eq_true]
    intro d hd
    obtain ⟨x, _, rfl⟩ := List.mem_map.mp hd
    cases x <;> rfl
  have h2 : inF .non (fs.map oN) = decide (none ∈ fs) := by
    unfold inF
    rw [List.any_map, Bool.eq_iff_iff, List.any_eq_true, decide_eq_true_iff]
    refine ⟨fun ⟨x, hx, e⟩ => ?_, fun h => ⟨none, h, rfl⟩⟩
    cases x with
    | none => exact hx
    | some n => cases e
  unfold dIn inOf
  simp only [seqOf, D.flat, h1, h2, Bool.and_self, if_true]
  exact q
theorem some_oN (ns : List Nat) : (ns.map some).map oN = ns.map natD := by rw [List.map_map]; rfl
theorem last_rise {ns : List Nat} (hr : ns.Pairwise (· < ·)) (hn : ns ≠ []) : ns.getLast hn < 8 ↔ ∀ n ∈ ns, n < 8 := by
  constructor
  · intro h n hm
    have e := List.dropLast_concat_getLast hn
    rw [← e] at hm hr
    rcases List.mem_append.mp hm with hm | hm
    · have := (List.pairwise_append.mp hr).2.2 n hm _ (List.mem_singleton.mpr rfl)
      omega
    · rw [List.mem_singleton.mp hm]; exact h
  · exact fun h => h _ (List.getLast_mem hn)
theorem pure_guests_of (ds : List D) (G : DH) (R : DK) (EX : DX) (h : sd_guests_of ds G R EX) : b_guests_of (endsD (frg R) EX) (startD N_guests_of ds) G := by
  obtain ⟨w, rfl, hw, q⟩ := h
  show b_guests_of (endsD (frg R) EX) [some (.str (S w)), none, none] G
  have q := frg_of q
  unfold b_guests_of
  walk_at "rd"
  by_cases h45 : w = [45]
  · subst h45
    rw [if_pos S_dash.symm]
    have e45 : gsOf [45] = some [] := gsOf_iff.mpr ⟨⟨.nil, by simp, by simp⟩, rfl⟩
    rw [e45] at q
    exact q
  rw [if_neg (by rw [S_dash]; exact fun h => h45 (S_inj h))]
  unfold dLcF iSq
  refine vsplitF (c := 44) rfl (by decide +kernel) (by decide) hw ?_
  dsimp only
  refine goLcF_mem (fun l => some (oN (pnum l))) trivial _ [] (fun l hl C1 C2 hC => ?_) (by
    have := spl_num 44 w
    rw [List.length_nil, sizeLine_eq]
    unfold big at hw
    omega) ?_
  · walk_at "rd"
    exact ⟨l, rfl, by have := spl_len hl; omega, hC⟩
  rw [List.nil_append, List.filterMap_eq_map', show (spl [44] 0 [] w).map (fun l => oN (pnum l)) = ((spl [44] 0 [] w).map pnum).map oN by rw [List.map_map]; rfl]
  generalize ef : (spl [44] 0 [] w).map pnum = fs
  walk_at "rd"
  refine vin_oN ?_
  walk_at "rd"
  by_cases hnone : none ∈ fs
  · rw [if_pos hnone]
    rw [gsOf_none h45 fun gs _ _ e => by
      rw [ef] at e
      rw [e] at hnone
      obtain ⟨x, -, hx⟩ := List.mem_map.mp hnone
      cases hx] at q
    exact q
  rw [if_neg hnone]
  obtain ⟨ns, rfl⟩ := all_some hnone
  have hne : ns ≠ [] := by
    rintro rfl
    exact spl_ne 44 w (List.map_eq_nil_iff.mp ef)
  have nog : ¬ GFit ns → frg R .non G := fun h => by
    rw [gsOf_none h45 fun gs _ hg e => by
      rw [ef] at e
      have := List.map_inj_right (fun a b h => Option.some.inj h) |>.mp e
      subst this
      exact h hg] at q
    exact q
  rw [some_oN]
  walk_at "rd"
  rw [List.length_map]
  by_cases h6 : ns.length ≤ 6
  · rw [if_neg (by simp; omega)]
    unfold dSortSetL
    walk_at "rd"
    rw [natsI]
    refine ⟨ns.map natI, rfl, by rw [List.length_map]; omega, fun qs hq hm => ?_⟩
    refine vne_ints ?_
    rw [ne_sorted hq hm]
    walk_at "rd"
    by_cases hr : ns.Pairwise (· < ·)
    · rw [decide_eq_true hr]
      walk_at "rd"
      rw [vat_last (by simpa using hne)]
      rw [List.getLast_map, List.getLast_map]
      walk_at "rd"
      have hlast := last_rise hr hne
      by_cases h8 : ns.getLast hne < 8
      · rw [if_pos (by unfold natI; omega)]
        rw [gsOf_some hne ⟨hr, h6, hlast.mp h8⟩ ef] at q
        rw [← natsI]
        exact q
      · rw [if_neg (by unfold natI; omega)]
        exact nog fun h => h8 (hlast.mpr h.2.2)
    · rw [decide_eq_false hr]
      walk_at "rd"
      exact nog fun h => hr h.1
  · rw [if_pos (by simp; omega)]
    exact nog fun h => h6 h.2.1
end K17
/-! ### k17: _law_number, _law_line, walked -/
namespace K17
open PySem PySem.Spec PyProof.Rows L2 Cc TL
open SX (S)
open PySem.NumText (AllDigits digitsVal)
theorem log_small {n : Nat} (h : n < 10 ^ 9) : n.log2 < 1920 := by
  by_cases h0 : n = 0
  · subst h0; decide
  · exact (Nat.log2_lt h0).mpr (Nat.lt_of_lt_of_le h (by decide +kernel))
theorem dStrI_nat {n : Nat} {G : DH} {R : DK} (h : n < 10 ^ 9) (q : R (.str (S (numL n))) G) : dStrI [.int (n : Int)] G R := by
  unfold dStrI
  dsimp only
  refine ⟨log_small h, ?_⟩
  rw [str_num]
  exact q
theorem pure__law_number (ds : List D) (G : DH) (R : DK) (EX : DX) (h : sd__law_number ds G R EX) : b__law_number (endsD (frg R) EX) (startD N__law_number ds) G := by
  obtain ⟨w, lo, hi, rfl, hw, q⟩ := h
  show b__law_number (endsD (frg R) EX) [some (.str (S w)), some (.int (lo : Int)), some (.int (hi : Int)), none] G
  have q := frg_of q
  unfold b__law_number
  walk_at "rd"
  have no : ¬ ((w ≠ [] ∧ AllDigits w ∧ w.length ≤ 9) ∧ numL (valL w) = w ∧ lo ≤ valL w ∧ valL w ≤ hi) → frg R .non G := fun e => by
    have : lnum w lo hi = none := by unfold lnum; rw [if_neg e]
    rw [this] at q
    exact q
  by_cases hne : w = []
  · rw [if_pos (by rw [hne, S_nil])]
    exact no fun h => h.1.1 hne
  rw [if_neg (by rw [S_nil]; exact fun h => hne (S_inj h))]
  unfold dLcF iStrD
  walk_at "rd"
  refine figs_at (K := fun d G2 => dNeE d (.rol []) G2 _) hw (by simp) ?_
  rw [vneE_rol]
  walk_at "rd"
  by_cases hd : AllDigits w
  · rw [if_neg (by rw [noFig_nil.mpr hd]; simp)]
    refine dLen_S hw ?_
    walk_at "rd"
    by_cases h9 : w.length ≤ 9
    · rw [if_neg (by simp; omega)]
      have hv : valL w < 10 ^ 9 := Nat.lt_of_lt_of_le (val_lt w hd) (Nat.pow_le_pow_right (by decide) h9)
      refine dIntS_S hd hne (by omega) ?_
      refine dStrI_nat hv ?_
      walk_at "rd"
      by_cases hc : numL (valL w) = w
      · rw [if_pos (by rw [hc])]
        refine dIntS_S hd hne (by omega) ?_
        walk_at "rd"
        by_cases h1 : lo ≤ valL w
        · rw [if_pos (by omega)]
          by_cases h2 : valL w ≤ hi
          · rw [if_pos (by simp; omega)]
            refine dIntS_S hd hne (by omega) ?_
            unfold lnum at q
            rw [if_pos ⟨⟨hne, hd, h9⟩, hc, h1, h2⟩] at q
            exact q
          · rw [if_neg (by simp; omega)]
            exact no fun h => h2 h.2.2.2
        · rw [if_neg (by omega)]
          exact no fun h => h1 h.2.2.1
      · rw [if_neg fun h => hc (S_inj h)]
        exact no fun h => hc h.2.1
    · rw [if_pos (by simp; omega)]
      exact no fun h => h9 h.1.2.2
  · rw [if_pos (by rw [Bool.not_eq_true', ← Bool.not_eq_true]; exact fun h => hd (noFig_nil.mp h))]
    exact no fun h => hd h.1.2.1
/-! a line -/
theorem lineOf_five {l a b c d e : List Nat} (h : spl [32] 0 [] l = [a, b, c, d, e]) {p gs : List Nat} : lineOf l = some (p, gs) ↔
    ∃ n0 n1 n2 n3, p = [n0, n1, n2, n3] ∧ lnum a 0 999 = some n0 ∧ lnum b 1 50 = some n1 ∧ lnum c 1 100 = some n2 ∧ lnum d 1 12 = some n3 ∧ GFit gs ∧ e = glast gs := by
  rw [lineOf_iff, ← line_parts, h]
  dsimp only
  constructor
  · rintro ⟨⟨n0, n1, n2, n3, rfl, h0, h1, h2, h3⟩, hg, e⟩
    simp only [List.map_cons, List.map_nil, List.cons_append, List.nil_append, List.cons.injEq, and_true] at e
    obtain ⟨rfl, rfl, rfl, rfl, rfl⟩ := e
    exact ⟨n0, n1, n2, n3, rfl, (lnum_iff (by decide)).mpr ⟨rfl, by omega⟩, (lnum_iff (by decide)).mpr ⟨rfl, by omega⟩, (lnum_iff (by decide)).mpr ⟨rfl, by omega⟩, (lnum_iff (by decide)).mpr ⟨rfl, by omega⟩, hg, rfl⟩
  · rintro ⟨n0, n1, n2, n3, rfl, h0, h1, h2, h3, hg, rfl⟩
    rw [lnum_iff (by decide)] at h0 h1 h2 h3
    obtain ⟨rfl, k0⟩ := h0
    obtain ⟨rfl, k1⟩ := h1
    obtain ⟨rfl, k2⟩ := h2
    obtain ⟨rfl, k3⟩ := h3
    exact ⟨⟨n0, n1, n2, n3, rfl, by omega, by omega, by omega, by omega⟩, hg, rfl⟩
theorem lineOf_len {l : List Nat} {c : List Nat × List Nat} (h : lineOf l = some c) : (spl [32] 0 [] l).length = 5 := by
  obtain ⟨⟨n0, n1, n2, n3, e, _⟩, _, k⟩ := lineOf_iff.mp h
  rw [line_parts.mpr k, e]
  rfl
theorem len5 {α : Type} {l : List α} (h : l.length = 5) : ∃ a b c d e, l = [a, b, c, d, e] := by
  match l, h with
  | [a, b, c, d, e], _ => exact ⟨a, b, c, d, e, rfl⟩
theorem pure__law_line (ds : List D) (G : DH) (R : DK) (EX : DX) (h : sd__law_line ds G R EX) : b__law_line (endsD (frg R) EX) (startD N__law_line ds) G := by
  obtain ⟨l, rfl, hl, q⟩ := h
  show b__law_line (endsD (frg R) EX) [some (.str (S l)), none, none, none, none, none, none] G
  have q := frg_of q
  unfold b__law_line
  walk_at "rd"
  refine vsplitF (c := 32) rfl (by decide +kernel) (by decide) hl ?_
  walk_at "rd"
  rw [List.length_map]
  by_cases h5 : ¬ (spl [32] 0 [] l).length = 5
  · rw [if_pos (by simp; omega)]
    have : lineOf l = none := by
      cases e : lineOf l with
      | none => rfl
      | some c => exact absurd (lineOf_len e) h5
    rw [this] at q
    exact q
  replace h5 := Decidable.not_not.mp h5
  rw [if_neg (by simp; omega)]
  obtain ⟨a, b, c, d, e, ep⟩ := len5 h5
  have hlen : ∀ w ∈ [a, b, c, d, e], w.length ≤ big := fun w hw => by
    rw [← ep] at hw
    have := spl_len hw
    omega
  rw [ep]
  have key := @lineOf_five l a b c d e ep
  clear h5 ep
  walk_at "rd"
  unfold dLcF iRange1
  walk_at "rd"
  refine ⟨by decide, ?_⟩
  rw [rangeD_map]
  refine goLcF_mem (G := G) (fun i : Nat => match i with
    | 0 => some (oN (lnum a 0 999))
    | 1 => some (oN (lnum b 1 50))
    | 2 => some (oN (lnum c 1 100))
    | _ => some (oN (lnum d 1 12))) trivial _ [] (fun i hi C1 C2 hC => ?_) (by rw [sizeLine_eq]; decide) ?_
  · have hi : i < 4 := List.mem_range.mp hi
    match i, hi with
    | 0, _ => walk_at "rd"; exact ⟨a, 0, 999, rfl, hlen a (by simp), hC⟩
    | 1, _ => walk_at "rd"; exact ⟨b, 1, 50, rfl, hlen b (by simp), hC⟩
    | 2, _ => walk_at "rd"; exact ⟨c, 1, 100, rfl, hlen c (by simp), hC⟩
    | 3, _ => walk_at "rd"; exact ⟨d, 1, 12, rfl, hlen d (by simp), hC⟩
  rw [show ([] ++ (List.range (Int.toNat 4)).filterMap (fun i : Nat => match i with
    | 0 => some (oN (lnum a 0 999))
    | 1 => some (oN (lnum b 1 50))
    | 2 => some (oN (lnum c 1 100))
    | _ => some (oN (lnum d 1 12))) : List D) = [lnum a 0 999, lnum b 1 50, lnum c 1 100, lnum d 1 12].map oN from rfl]
  have he := hlen e (by simp)
  clear hlen
  rw [show [a, b, c, d, e].map strS = [.str (S a), .str (S b), .str (S c), .str (S d), .str (S e)] from rfl]
  have fin : ∀ (gl : List (Option Nat)) (o o1 : Option D), gl.length ≤ big + 1 → (∀ gs, GFit gs → (gl = gs.map some ↔ e = glast gs)) → (∀ gs : List Nat, gl = gs.map some → ∀ g ∈ gs, g < 8) →
      lineE (endsD (frg R) EX)
        [some (.str (S l)), o1, o, some (.rol ([lnum a 0 999, lnum b 1 50, lnum c 1 100, lnum d 1 12].map oN)), none, some (.rol (gl.map oN)), none] G := fun gl o o1 hgl hs hb => by
    generalize ex : [lnum a 0 999, lnum b 1 50, lnum c 1 100, lnum d 1 12] = xs
    unfold lineE
    walk_at "rd"
    refine vin_oN ?_
    walk_at "rd"
    by_cases hn : none ∈ xs
    · rw [if_pos hn]
      cases eo : lineOf l with
      | none => rw [eo] at q; exact q
      | some k =>
        obtain ⟨n0, n1, n2, n3, -, e0, e1, e2, e3, -⟩ := key.mp (show lineOf l = some (k.1, k.2) from eo)
        rw [e0, e1, e2, e3] at ex
        subst ex
        simp at hn
    rw [if_neg hn]
    refine vin_oN ?_
    walk_at "rd"
    by_cases hg : none ∈ gl
    · rw [if_pos hg]
      cases eo : lineOf l with
      | none => rw [eo] at q; exact q
      | some k =>
        obtain ⟨n0, n1, n2, n3, -, -, -, -, -, hG, eg⟩ := key.mp (show lineOf l = some (k.1, k.2) from eo)
        rw [(hs _ hG).mpr eg] at hg
        obtain ⟨x, -, hx⟩ := List.mem_map.mp hg
        cases hx
    rw [if_neg hg]
    obtain ⟨gs, rfl⟩ := all_some hg
    have nog : ¬ GFit gs → frg R .non G := fun h => by
      cases eo : lineOf l with
      | none => rw [eo] at q; exact q
      | some k =>
        obtain ⟨n0, n1, n2, n3, -, -, -, -, -, hG, eg⟩ := key.mp (show lineOf l = some (k.1, k.2) from eo)
        have := List.map_inj_right (fun a b h => Option.some.inj h) |>.mp ((hs _ hG).mpr eg)
        subst this
        exact absurd hG h
    rw [some_oN]
    walk_at "rd"
    rw [List.length_map]
    by_cases h6 : gs.length ≤ 6
    · rw [if_neg (by simp; omega)]
      unfold dSortSetL
      walk_at "rd"
      rw [natsI]
      refine ⟨gs.map natI, rfl, by rw [List.length_map]; omega, fun qs hq hm => ?_⟩
      refine vne_ints ?_
      rw [ne_sorted hq hm]
      walk_at "rd"
      by_cases hr : gs.Pairwise (· < ·)
      · rw [decide_eq_true hr]
        walk_at "rd"
        rw [← natsI]
        obtain ⟨ns, e1⟩ := all_some hn
        subst e1
        match ns, ex with
        | [], ex => simp at ex
        | [_], ex => simp at ex
        | [_, _], ex => simp at ex
        | [_, _, _], ex => simp at ex
        | _ :: _ :: _ :: _ :: _ :: _, ex => simp at ex
        | [n0, n1, n2, n3], ex =>
          simp only [List.map_cons, List.map_nil, List.cons.injEq, and_true] at ex
          obtain ⟨e0, e1, e2, e3⟩ := ex
          have hG : GFit gs := ⟨hr, h6, hb gs rfl⟩
          rw [key.mpr ⟨n0, n1, n2, n3, rfl, e0, e1, e2, e3, hG, (hs gs hG).mp rfl⟩] at q
          exact q
      · rw [decide_eq_false hr]
        walk_at "rd"
        exact nog fun h => hr h.1
    · rw [if_pos (by simp; omega)]
      exact nog fun h => h6 h.2.1
  walk_at "rd"
  by_cases h45 : e = [45]
  · rw [if_pos (by rw [h45, S_dash])]
    refine fin [] _ _ (by simp) (fun gs hG => ?_) (fun gs h g hg => ?_)
    · rw [h45]
      constructor
      · intro h
        have : gs = [] := List.map_eq_nil_iff.mp h.symm
        rw [this]
        rfl
      · intro h
        rw [← glast_inj (gs := []) (hs := gs) h]
        rfl
    · rw [List.map_eq_nil_iff.mp h.symm] at hg
      cases hg
  rw [if_neg (by rw [S_dash]; exact fun h => h45 (S_inj h))]
  unfold iSq dSplitF
  walk_at "rd"
  refine ⟨S e, rfl, _, rfl, by decide +kernel, by rw [S_len, sizeLine_eq]; unfold big at he; omega, ?_⟩
  rw [show (Str.ofString "," : Str) = S [44] by decide +kernel, split_c (by decide)]
  walk_at "rd"
  refine goLcF_mem (fun w => some (oN (lnum w 0 7))) trivial _ [] (fun w hw C1 C2 hC => ?_) (by
    have := spl_num 44 e
    rw [List.length_nil, sizeLine_eq]
    unfold big at he
    omega) ?_
  · walk_at "rd"
    exact ⟨w, 0, 7, rfl, by have := spl_len hw; omega, hC⟩
  rw [List.nil_append, List.filterMap_eq_map', show (spl [44] 0 [] e).map (fun l => oN (lnum l 0 7)) = ((spl [44] 0 [] e).map fun w => lnum w 0 7).map oN by rw [List.map_map]; rfl]
  have hnn := spl_ne 44 e
  refine fin ((spl [44] 0 [] e).map fun w => lnum w 0 7) _ _ (by rw [List.length_map]; have := spl_num 44 e; omega) (fun gs hG => ?_) (fun gs h g hg => ?_)
  · by_cases hg : gs = []
    · subst hg
      constructor
      · intro h
        exact absurd (List.map_eq_nil_iff.mp h) hnn
      · exact fun h => absurd h h45
    · rw [guests_l hg]
      exact ⟨fun h => h.1, fun h => ⟨h, hG.2.2⟩⟩
  · by_cases hn : gs = []
    · rw [hn] at hg; cases hg
    · exact ((guests_l hn).mp h).2 g hg
end K17
/-! ### k17: read, walked -/
namespace K17
open PySem PySem.Spec PyProof.Rows L2 Cc TL
open SX (S)
open PySem.NumText (AllDigits digitsVal)
theorem isPlan_nats {fs : List (Option Nat)} : Pl.isPlan (fs.map oN) = true ↔ ∃ p, fs = p.map some ∧ PFit p := by
  constructor
  · intro h
    obtain ⟨P, e, ok⟩ := Pl.ok_of_isPlan h
    obtain ⟨a, b, c, d, e1, f, g, i⟩ := ok
    have key : ∀ {x : Option Nat} {z : Int}, oN x = .int z → ∃ n : Nat, x = some n ∧ (n : Int) = z := fun {x z} hx => by
      cases x with
      | none => cases hx
      | some n => exact ⟨n, rfl, by injection hx⟩
    match fs, e with
    | [], e => simp [Pl.Plan.ds] at e
    | [_], e => simp [Pl.Plan.ds] at e
    | [_, _], e => simp [Pl.Plan.ds] at e
    | [_, _, _], e => simp [Pl.Plan.ds] at e
    | _ :: _ :: _ :: _ :: _ :: _, e => simp [Pl.Plan.ds] at e
    | [x0, x1, x2, x3], e =>
      simp only [List.map_cons, List.map_nil, Pl.Plan.ds, List.cons.injEq, and_true] at e
      obtain ⟨h0, h1, h2, h3⟩ := e
      obtain ⟨n0, rfl, k0⟩ := key h0
      obtain ⟨n1, rfl, k1⟩ := key h1
      obtain ⟨n2, rfl, k2⟩ := key h2
      obtain ⟨n3, rfl, k3⟩ := key h3
      exact ⟨[n0, n1, n2, n3], rfl, n0, n1, n2, n3, rfl, by omega, by omega, by omega, by omega⟩
  · rintro ⟨p, rfl, n0, n1, n2, n3, rfl, h0, h1, h2, h3⟩
    simp only [List.map_cons, List.map_nil, oN, Pl.isPlan, Pl.btw, Bool.and_eq_true, decide_eq_true_eq]
    omega
theorem plan_ok {p : List Nat} (h : PFit p) : Pl.isPlan (p.map natD) = true := by
  rw [← some_oN]
  exact isPlan_nats.mpr ⟨p, rfl, h⟩
theorem PFit.le {p : List Nat} (h : PFit p) : ∀ n ∈ p, n ≤ 999 := by
  obtain ⟨n0, n1, n2, n3, rfl, h0, h1, h2, h3⟩ := h
  intro n hn
  simp only [List.mem_cons, List.not_mem_nil, or_false] at hn
  omega
theorem lineOf_prog {l e : List Nat} {ini : List (List Nat)} (h : spl [32] 0 [] l = ini ++ [e]) {p gs : List Nat} : lineOf l = some (p, gs) ↔ ini.map pnum = p.map some ∧ PFit p ∧ gsOf e = some gs := by
  rw [lineOf_iff, ← line_parts, h, map_pnum, gsOf_iff]
  dsimp only
  constructor
  · rintro ⟨hp, hg, e⟩
    obtain ⟨e1, e2⟩ := List.append_inj' e rfl
    injection e2 with e2
    exact ⟨⟨e1, hp.le⟩, hp, hg, e2⟩
  · rintro ⟨⟨e1, -⟩, hp, hg, e2⟩
    exact ⟨hp, hg, by rw [e1, e2]⟩
theorem vne_strS {a b : List Nat} {G : DH} {R : DK} (q : R (.bl (!decide (a = b))) G) : dNe (.str (S a)) (.str (S b)) G R := by
  show R (.bl (!decide (S a = S b))) G
  rw [show decide (S a = S b) = decide (a = b) from decide_eq_decide.mpr ⟨S_inj, fun h => by rw [h]⟩]
  exact q
theorem sIx_last (n : Nat) (h : 0 < n) : HT.sIx n n (some (-1)) = n - 1 := by
  have := HT.clip_eq (-1) n n
  rw [if_pos (by decide)] at this
  omega
theorem vcut_last {l : List D} (h : l ≠ []) : Cc.cutD l none (some (-1)) = l.dropLast := by
  unfold Cc.cutD
  rw [HT.sIx_none, sIx_last _ (List.length_pos_iff.mpr h), List.drop_zero, Nat.sub_zero, List.dropLast_eq_take]
theorem range_mid {n : Nat} {pre xs : List Nat} {x : Nat} (h : pre ++ x :: xs = List.range n) : x = pre.length ∧ x < n := by
  have hx : x ∈ List.range n := by rw [← h]; simp
  have hn := List.mem_range.mp hx
  have hl := congrArg List.length h
  rw [List.length_append, List.length_range, List.length_cons] at hl
  have e : (pre ++ x :: xs)[pre.length]? = some x := by rw [List.getElem?_append_right (Nat.le_refl _)]; simp
  rw [h, List.getElem?_range (by omega)] at e
  injection e with e
  exact ⟨e.symm, hn⟩
theorem lines_len {t l : List Nat} (h : l ∈ linesOf t) : l.length ≤ t.length := by
  unfold linesOf at h
  split at h
  · cases h
  · exact spl_len h
theorem lines_num (t : List Nat) : (linesOf t).length ≤ t.length + 1 := by
  unfold linesOf
  split
  · simp
  · exact spl_num 10 t
/-- what a line tells, and its plan, its guests -/
theorem line_step {C : Addr} {l : List Nat} {i : Nat} {f : Addr} {o0 o4 o5 o6 o7 : Option D} {acc : List D} {G : DH} {Dn : DEnds} (hl : l.length ≤ big) (hf : G f = some (.lst acc)) (hacc : acc.length < sizeLine)
    (q1 : ∀ c, lineOf l = some c → ∀ o4 o5 o7, Dn.nx [o0, some (.ref f), some (.int (i : Int)), some (strS l), o4, o5, o6, o7] (updD G f (.lst (acc ++ [callD c]))))
    (q2 : lineOf l = none → ∀ d, G d = none → Dn.ex (.ref C) (some d) (updD G d (.xd [("row", .int (i : Int))]))) :
    readB C Dn [o0, some (.ref f), some (.int (i : Int)), some (strS l), o4, o5, o6, o7] G := by
  unfold readB
  walk_at "rd"
  refine vsplitF (c := 32) rfl (by decide +kernel) (by decide) hl ?_
  have hn := spl_ne 32 l
  have e0 := List.dropLast_concat_getLast hn
  have hlen : ∀ w ∈ spl [32] 0 [] l, w.length ≤ big := fun w hw => by
    have := spl_len hw
    omega
  have hnum := spl_num 32 l
  revert e0
  generalize (spl [32] 0 [] l).dropLast = ini
  generalize (spl [32] 0 [] l).getLast hn = e
  intro e0
  have key := @lineOf_prog l e ini e0.symm
  rw [← e0] at hlen hnum ⊢
  clear hn e0
  rw [List.map_append, List.map_cons, List.map_nil]
  unfold dLcF iSq dSl oNo oSome
  walk_at "rd"
  rw [vcut_last (by simp), List.dropLast_concat]
  refine goLcF_mem (G := G) (fun w => some (oN (pnum w))) trivial _ [] (fun w hw C1 C2 hC => ?_) (by
    rw [List.length_append, List.length_singleton] at hnum
    rw [List.length_nil, sizeLine_eq]
    unfold big at hl
    omega) ?_
  · unfold strS
    walk_at "rd"
    exact ⟨w, rfl, hlen w (List.mem_append_left _ hw), hC⟩
  rw [List.nil_append, List.filterMap_eq_map', show ini.map (fun l => oN (pnum l)) = (ini.map pnum).map oN by rw [List.map_map]; rfl]
  walk_at "rd"
  rw [vat_last (by simp)]
  rw [List.getLast_concat]
  dsimp only
  unfold strS
  refine ⟨e, rfl, hlen e (by simp), ?_⟩
  generalize ini.map pnum = fs at key ⊢
  generalize gsOf e = go at key ⊢
  refine ⟨fs.map oN, rfl, fun x hx => ?_, ?_⟩
  · obtain ⟨y, -, rfl⟩ := List.mem_map.mp hx
    cases y
    · exact .non
    · exact .int _
  walk_at "rd"
  by_cases hp : Pl.isPlan (fs.map oN) = true
  · rw [if_neg (by rw [hp]; decide)]
    obtain ⟨p, rfl, hP⟩ := isPlan_nats.mp hp
    cases go with
    | none =>
      rw [if_pos (by rfl)]
      unfold sRaiseT
      walk_at "rd"
      refine q2 ?_
      cases el : lineOf l with
      | none => rfl
      | some c =>
        have := (key.mp (show lineOf l = some (c.1, c.2) from el)).2.2
        cases this
    | some gs =>
      rw [if_neg (by simp [gsO, natsD, D.isN])]
      walk_at "rd"
      refine ⟨ty_lst hf, app_at hf hacc ?_⟩
      rw [some_oN]
      exact q1 (p, gs) (key.mpr ⟨rfl, hP, rfl⟩) _ _ _
  · rw [if_pos (by rw [Bool.not_eq_true', ← Bool.not_eq_true]; exact hp)]
    unfold sRaiseT
    walk_at "rd"
    refine q2 ?_
    cases el : lineOf l with
    | none => rfl
    | some c =>
      obtain ⟨h1, h2, -⟩ := key.mp (show lineOf l = some (c.1, c.2) from el)
      exact absurd (isPlan_nats.mpr ⟨_, h1, h2⟩) hp
end K17
/-! ### k17: read, written, walked -/
namespace K17
open PySem PySem.Spec PyProof.Rows L2 Cc TL
open SX (S)
open PySem.NumText (AllDigits digitsVal)
theorem enum_strS (ls : List (List Nat)) : enumD (ls.map strS) = (List.range ls.length).map fun i : Nat => D.tup [.int (i : Int), strS (ls.getD i [])] := by
  unfold enumD
  rw [List.length_map]
  refine List.map_congr_left fun i hi => ?_
  have hi := List.mem_range.mp hi
  rw [List.getD_eq_getElem?_getD, List.getElem?_map, List.getD_eq_getElem?_getD, List.getElem?_eq_getElem hi]
  rfl
theorem take_at {α : Type} {l : List α} {i : Nat} (h : i < l.length) (d : α) : l = l.take i ++ l.getD i d :: l.drop (i + 1) ∧ l.take (i + 1) = l.take i ++ [l.getD i d] := by
  rw [List.getD_eq_getElem?_getD, List.getElem?_eq_getElem h]
  constructor
  · show l = l.take i ++ l[i] :: l.drop (i + 1)
    rw [← List.drop_eq_getElem_cons h, List.take_append_drop]
  · rw [List.take_succ, List.getElem?_eq_getElem h]
    rfl
theorem read_loop {C : Addr} {ls : List (List Nat)} {f b : Addr} {o0 : Option D} {G0 G : DH} {Dn : DEnds} (hls : ∀ l ∈ ls, l.length ≤ big) (hnum : ls.length ≤ big + 1) (hf0 : G0 f = none) (hb0 : G0 b = none) (hfb : f ≠ b) (hf : G f = some (.lst [])) (hb : G b = some (.lst (ls.map strS))) (hs : Sub G0 G)
    (q1 : ∀ cs : List (List Nat × List Nat), ls.map lineOf = cs.map some → ∀ o2 o3 o4 o5 o6 o7 G', G' f = some (.lst (cs.map callD)) → Sub G0 G' → Dn.nx [o0, some (.ref f), o2, o3, o4, o5, o6, o7] G')
    (q2 : ∀ (l1 rs : List (List Nat)) (l : List Nat) (cs : List (List Nat × List Nat)), ls = l1 ++ l :: rs → l1.map lineOf = cs.map some → lineOf l = none → ∀ (G' : DH) d, Sub G0 G' → G' d = some (.xd [("row", .int (l1.length : Nat))]) → Dn.ex (.ref C) (some d) G') :
    goFor (fun G => G b = some (.lst (ls.map strS))) (gT 2 (gsCons (gN 2) (gsCons (gN 3) gsNil))) (readB C) Dn (enumD (ls.map strS)) [o0, some (.ref f), none, none, none, none, none, none] G := by
  rw [enum_strS]
  refine goFor_map (f := fun i : Nat => D.tup [.int (i : Int), strS (ls.getD i [])]) (fun xs δ G' => ∃ pre cs o2 o3 o4 o5 o6 o7, pre ++ xs = List.range ls.length ∧ δ = [o0, some (.ref f), o2, o3, o4, o5, o6, o7] ∧ (ls.take pre.length).map lineOf = cs.map some ∧ G' f = some (.lst (cs.map callD)) ∧ G' b = some (.lst (ls.map strS)) ∧ Sub G0 G')
    (fun xs δ G' ⟨_, _, _, _, _, _, _, _, _, _, _, _, h, _⟩ => h) (fun δ G' ⟨pre, cs, o2, o3, o4, o5, o6, o7, ep, eδ, ec, h1, h2, h3⟩ => ?_) (fun x xs δ G' N ⟨pre, cs, o2, o3, o4, o5, o6, o7, ep, eδ, ec, h1, h2, h3⟩ hN => ?_) _ _ _ ⟨[], [], none, none, none, none, none, none, rfl, rfl, rfl, hf, hb, hs⟩
  · subst eδ
    have hl := congrArg List.length ep
    rw [List.length_append, List.length_nil, List.length_range] at hl
    rw [show pre.length = ls.length by omega, List.take_length] at ec
    exact q1 cs ec _ _ _ _ _ _ G' h1 h3
  · subst eδ
    obtain ⟨ex, hx⟩ := range_mid ep
    obtain ⟨e1, e2⟩ := take_at hx []
    have hc : cs.length = x := by
      have := congrArg List.length ec
      rw [List.length_map, List.length_map, List.length_take] at this
      omega
    walk_at "rd"
    refine line_step (hls _ (by rw [List.getD_eq_getElem?_getD, List.getElem?_eq_getElem hx]; exact List.getElem_mem hx)) h1 (by rw [List.length_map, sizeLine_eq]; unfold big at hnum; omega) (fun c hlc o4 o5 o7 => ?_) (fun hnone d hd => ?_)
    · refine hN _ _ ⟨pre ++ [x], cs ++ [c], _, _, _, _, _, _, by rw [List.append_assoc]; exact ep, rfl, ?_, ?_, ?_, ?_⟩
      · rw [List.length_append, List.length_singleton, ← ex, e2, List.map_append, List.map_append, ← ec, ex]
        rw [List.map_cons, List.map_nil, List.map_cons, List.map_nil, ← ex, hlc]
      · rw [updD_same, List.map_append]; rfl
      · rw [updD_ne (Ne.symm hfb)]; exact h2
      · exact fun a c ha => by rw [updD_ne (neD ha hf0)]; exact h3 a c ha
    · refine q2 (ls.take x) (ls.drop (x + 1)) _ cs e1 (by rw [ex]; exact ec) hnone _ d (fun a c ha => by rw [updD_ne (neD (h3 a c ha) hd)]; exact h3 a c ha) ?_
      rw [updD_same, List.length_take, Nat.min_eq_left (by omega)]
theorem pure_read (C : Addr) (ds : List D) (G : DH) (R : DK) (EX : DX) (h : sd_read C ds G R EX) : b_read C (endsD (frg R) EX) (startD N_read ds) G := by
  obtain ⟨t, rfl, ht, q1, q2⟩ := h
  show b_read C (endsD (frg R) EX) [some (.str (S t)), none, none, none, none, none, none, none] G
  have hls : ∀ l ∈ linesOf t, l.length ≤ big := fun l hl => by have := lines_len hl; omega
  have hnum : (linesOf t).length ≤ big + 1 := by have := lines_num t; omega
  unfold b_read
  walk_at "rd"
  intro f hf
  unfold sFor iEnumD
  walk_at "rd"
  rw [show (Str.ofString "" : Str) = S [] by decide +kernel]
  refine vne_strS ?_
  walk_at "rd"
  have main : ∀ (b : Addr), updD G f (.lst []) b = none →
      goFor (fun G => G b = some (.lst ((linesOf t).map strS))) (gT 2 (gsCons (gN 2) (gsCons (gN 3) gsNil))) (readB C) { endsD (frg R) EX with nx := sRet (dVar 1) (endsD (frg R) EX) } (enumD ((linesOf t).map strS)) [some (.str (S t)), some (.ref f), none, none, none, none, none, none] (updD (updD G f (.lst [])) b (.lst ((linesOf t).map strS))) := fun b hb => by
    obtain ⟨hb0, hbf⟩ := none_up hb
    refine read_loop (G0 := G) hls hnum hf hb0 (Ne.symm hbf) (by rw [updD_ne (Ne.symm hbf)]; exact updD_same) updD_same ((Sub.new hf).trans (Sub.new hb)) (fun cs hc o2 o3 o4 o5 o6 o7 G' h1 h2 => ?_) (fun l1 rs l cs e1 e2 e3 G' d hG hd => q2 l1 rs l cs e1 e2 e3 G' d hG hd)
    walk_at "rd"
    exact ⟨_, h2.up hf h1, q1 cs hc f hf⟩
  by_cases h0 : t = []
  · rw [decide_eq_true h0, if_neg (by decide)]
    intro b hb
    have m := main b hb
    have e0 : linesOf t = [] := by unfold linesOf; rw [if_pos h0]
    rw [e0] at m
    exact ⟨[], updD_same, m⟩
  · rw [decide_eq_false h0, if_pos (by decide)]
    have e0 : linesOf t = spl [10] 0 [] t := by unfold linesOf; rw [if_neg h0]
    unfold dSplitR
    walk_at "rd"
    refine ⟨S t, rfl, _, rfl, by decide +kernel, by rw [S_len, sizeLine_eq]; unfold big at ht; omega, fun b hb => ?_⟩
    rw [show (Str.ofString "\n" : Str) = S [10] by decide +kernel, split_c (by decide), ← e0]
    exact ⟨_, updD_same, main b hb⟩
end K17
/-! ### k17: written, walked -/
namespace K17
open PySem PySem.Spec PyProof.Rows L2 Cc TL
open SX (S)
open PySem.NumText (AllDigits digitsVal)
theorem sum_le {k : Nat} : ∀ {ps : List (List Nat)}, (∀ p ∈ ps, p.length + 1 ≤ k) → (ps.map fun p => p.length + 1).sum ≤ k * ps.length
  | [], _ => by simp
  | p :: ps, h => by
    have i := sum_le (ps := ps) fun q hq => h q (List.mem_cons_of_mem _ hq)
    have := h p List.mem_cons_self
    rw [List.map_cons, List.sum_cons, List.length_cons, Nat.mul_succ]
    omega
theorem sum_one : ∀ ps : List (List Nat), (ps.map (·.length)).sum + ps.length = (ps.map fun p => p.length + 1).sum
  | [] => rfl
  | p :: ps => by
    have := sum_one ps
    rw [List.map_cons, List.sum_cons, List.map_cons, List.sum_cons, List.length_cons]
    omega
theorem vjoin {c : Nat} {ls : List (List Nat)} {G : DH} {R : DK} (hs : (ls.map fun p => p.length + 1).sum ≤ 100000) (q : R (.str (S (joinL [c] ls))) G) : mJoin (.str (S [c])) [.rol (ls.map strS)] G R := by
  refine ⟨ls.map S, by rw [List.map_map]; rfl, ?_, ?_⟩
  · rw [SX.lens, List.length_map]
    have := sum_one ls
    show _ + ls.length * 1 ≤ _
    omega
  · rw [SX.join_S]
    exact q
theorem num_len {n : Nat} (h : n ≤ 999) : (numL n).length ≤ 3 := numL_len (by decide) (by omega)
theorem nums_sum {ns : List Nat} (h : ∀ n ∈ ns, n ≤ 999) : ((ns.map numL).map fun p => p.length + 1).sum ≤ 4 * ns.length := by
  have := sum_le (k := 4) (ps := ns.map numL) fun p hp => by
    obtain ⟨n, hn, rfl⟩ := List.mem_map.mp hp
    have := num_len (h n hn)
    omega
  rw [List.length_map] at this
  exact this
theorem GFit.le {gs : List Nat} (h : GFit gs) : ∀ n ∈ gs, n ≤ 999 := fun n hn => by have := h.2.2 n hn; omega
theorem PFit.len {p : List Nat} (h : PFit p) : p.length = 4 := by
  obtain ⟨n0, n1, n2, n3, rfl, _⟩ := h
  rfl
theorem glast_len {gs : List Nat} (h : GFit gs) : (glast gs).length ≤ 23 := by
  unfold glast
  split
  · simp
  · rename_i hn
    have a := join_len 44 (ps := gs.map numL) (by simpa using hn)
    have b := nums_sum h.le
    have := h.2.1
    omega
theorem words_sum {p gs : List Nat} (hp : PFit p) (hg : GFit gs) : ((p.map numL ++ [glast gs]).map fun p => p.length + 1).sum ≤ 40 := by
  have a := nums_sum hp.le
  have b := glast_len hg
  have c := hp.len
  rw [List.map_append, List.sum_append]
  simp
  simp at a
  omega
theorem lineT_len {p gs : List Nat} (hp : PFit p) (hg : GFit gs) : (lineT p gs).length ≤ 39 := by
  have a := join_len 32 (ps := p.map numL ++ [glast gs]) (by simp)
  have b := words_sum hp hg
  unfold lineT
  omega
/-- str(n) for all of them -/
theorem strs_at {ns : List Nat} {j : Nat} {δ : DS} {G : DH} {k : List D → DH → Prop} (hn : ∀ n ∈ ns, n ≤ 999) (hl : ns.length ≤ 100) (hj : j < δ.length) (q : k ((ns.map numL).map strS) G) :
    goLcF (fun _ => True) (gN j) dYes (dCB dStrI (dCons (dVar j) dNil)) k δ [] (ns.map natD) G := by
  refine goLcF_mem (G := G) (fun n => some (strS (numL n))) trivial ns [] (fun n hm C1 C2 hC => ?_) (by rw [List.length_nil, sizeLine_eq]; omega) ?_
  · walk_at "rd"
    have hv : (δ.set j (some (natD n)))[j]? = some (some (natD n)) := by rw [List.getElem?_set_self hj]
    rw [hv]
    dsimp only
    exact dStrI_nat (by have := hn n hm; omega) hC
  · rw [List.nil_append, List.filterMap_eq_map']
    rw [List.map_map] at q
    exact q
theorem s_comma : (Str.ofString "," : Str) = S [44] := by decide +kernel
theorem s_space : (Str.ofString " " : Str) = S [32] := by decide +kernel
theorem s_line : (Str.ofString "\n" : Str) = S [10] := by decide +kernel
theorem natI_nil {gs : List Nat} : decide (gs.map natI = []) = decide (gs = []) := decide_eq_decide.mpr (by simp)
theorem writ_step {CH CP : Addr} {p gs : List Nat} {f : Addr} {o0 o4 o5 o6 : Option D} {acc : List D} {G : DH} {Dn : DEnds} (hp : PFit p) (hg : GFit gs) (hf : G f = some (.lst acc)) (hacc : acc.length < sizeLine)
    (q : ∀ o4, Dn.nx [o0, some (.ref f), some (natsD p), some (natsD gs), o4, o5, o6] (updD G f (.lst (acc ++ [lineD (p, gs)])))) :
    writB CH CP Dn [o0, some (.ref f), some (natsD p), some (natsD gs), o4, o5, o6] G := by
  rw [natsD_eq, natsD_eq] at *
  unfold writB
  walk_at "rd"
  refine ⟨p.map natD, rfl, fun x hx => ?_, fun _ => ?_, fun h => ?_⟩
  · obtain ⟨n, -, rfl⟩ := List.mem_map.mp hx
    exact .int _
  · refine ⟨gs.map natD, rfl, fun x hx => ?_, by rw [List.length_map]; have := hg.2.1; omega, fun _ => ?_, fun h => absurd ⟨gs, rfl, hg⟩ h⟩
    · obtain ⟨n, -, rfl⟩ := List.mem_map.mp hx
      exact .int _
    walk_at "rd"
    unfold dLcF
    rw [vsq_tup rfl]
    refine strs_at hp.le (by rw [hp.len]; decide) (by show 5 < 7; decide) ?_
    walk_at "rd"
    refine ⟨ty_lst hf, ?_⟩
    refine ⟨rfl, ?_⟩
    have fin : ∀ w : List Nat, w = glast gs → (((p.map numL).map strS).length + [D.str (S w)].length ≤ sizeLine ∧ mJoin (.str (S [32])) [.rol ((p.map numL).map strS ++ [.str (S w)])] G fun y G2 => mAppend (.ref f) [y] G2 fun _ G3 => Dn.nx [o0, some (.ref f), some (.tup (p.map natD)), some (.tup (gs.map natD)), some (.rol ((p.map numL).map strS)), o5, o6] G3) := fun w hw => by
      subst hw
      refine ⟨by rw [List.length_map, List.length_map, hp.len, sizeLine_eq]; simp, ?_⟩
      rw [show ((p.map numL).map strS ++ [D.str (S (glast gs))] : List D) = (p.map numL ++ [glast gs]).map strS by rw [List.map_append]; rfl]
      exact vjoin (by have := words_sum hp hg; omega) (app_at hf hacc (q _))
    rw [natsI]
    refine vne_tup (b := []) ?_
    rw [natI_nil, ← natsI]
    walk_at "rd"
    by_cases h0 : gs = []
    · rw [decide_eq_true h0, if_neg (by decide)]
      have := fin [45] (by rw [h0]; rfl)
      rw [s_space]
      exact this
    · rw [decide_eq_false h0, if_pos (by decide)]
      rw [vsq_tup rfl, s_comma, s_space]
      refine ⟨rfl, ?_⟩
      refine strs_at hg.le (by have := hg.2.1; omega) (by show 6 < 7; decide) ?_
      refine vjoin (by have := nums_sum hg.le; have := hg.2.1; omega) ?_
      exact fin _ (by unfold glast; rw [if_neg h0])
  · rw [plan_ok hp] at h
    cases h
end K17
/-! ### k17: written, _law_changed, walked -/
namespace K17
open PySem PySem.Spec PyProof.Rows L2 Cc TL
open SX (S)
open PySem.NumText (AllDigits digitsVal)
theorem lines_sum {cs : List (List Nat × List Nat)} (h : ∀ c ∈ cs, PFit c.1 ∧ GFit c.2) : ((cs.map fun c => lineT c.1 c.2).map fun p => p.length + 1).sum ≤ 40 * cs.length := by
  have := sum_le (k := 40) (ps := cs.map fun c => lineT c.1 c.2) fun p hp => by
    obtain ⟨c, hc, rfl⟩ := List.mem_map.mp hp
    have := lineT_len (h c hc).1 (h c hc).2
    omega
  rw [List.length_map] at this
  exact this
theorem lines_strS (cs : List (List Nat × List Nat)) : cs.map lineD = (cs.map fun c => lineT c.1 c.2).map strS := by rw [List.map_map]; rfl
theorem pure_written (CP CH : Addr) (ds : List D) (G : DH) (R : DK) (EX : DX) (h : sd_written CP CH ds G R EX) : b_written CH CP (endsD (frg R) EX) (startD N_written ds) G := by
  obtain ⟨cs, tail, rfl, hfit, hcs, q⟩ := h
  show b_written CH CP (endsD (frg R) EX) [some (.rol (cs.map callD ++ tail)), none, none, none, none, none, none] G
  unfold b_written
  walk_at "rd"
  intro f hf
  unfold sFor iSq
  walk_at "rd"
  generalize hl0 : cs.map callD ++ tail = l0
  refine goFor_by (fun zs δ G' => ∃ pre post o2 o3 o4 o5 o6, cs = pre ++ post ∧ zs = post.map callD ++ tail ∧ δ = [some (.rol l0), some (.ref f), o2, o3, o4, o5, o6] ∧ G' = updD G f (.lst (pre.map lineD)))
    (fun _ _ _ _ => trivial) (fun δ G' ⟨pre, post, o2, o3, o4, o5, o6, e1, e2, e3, e4⟩ => ?_) (fun x zs δ G' N ⟨pre, post, o2, o3, o4, o5, o6, e1, e2, e3, e4⟩ hN => ?_) _ _ _ ⟨[], cs, none, none, none, none, none, rfl, hl0.symm, rfl, rfl⟩
  · subst e3 e4
    obtain ⟨hp, ht⟩ := List.append_eq_nil_iff.mp e2.symm
    rw [List.map_eq_nil_iff.mp hp, List.append_nil] at e1
    subst e1
    rcases q with ⟨-, q⟩ | ⟨_, _, _, e, _⟩
    · dsimp only
      refine sFz_lst (p := f) rfl updD_same ?_
      rw [delD_updD hf]
      walk_at "rd"
      refine ⟨rfl, ?_⟩
      rw [s_line, lines_strS]
      exact vjoin (by have := lines_sum hfit; omega) (frg_of q)
    · rw [e] at ht; cases ht
  · subst e3 e4
    have hpre : (pre.map lineD).length < sizeLine := by
      have := congrArg List.length e1
      rw [List.length_append] at this
      rw [List.length_map, sizeLine_eq]
      omega
    cases post with
    | cons c post =>
      rw [List.map_cons, List.cons_append] at e2
      injection e2 with e2 e3
      subst e2
      unfold callD
      walk_at "rd"
      have hc := hfit c (by rw [e1]; simp)
      refine writ_step hc.1 hc.2 updD_same hpre fun o4 => ?_
      rw [updD_updD]
      refine hN _ _ ⟨pre ++ [c], post, _, _, _, _, _, by rw [e1]; simp, e3, rfl, ?_⟩
      rw [List.map_append]
      rfl
    | nil =>
      rw [List.map_nil, List.nil_append] at e2
      rcases q with ⟨e, -⟩ | ⟨p, gs, rest, e, hp, hg, hgl, q⟩
      · rw [e] at e2; cases e2
      rw [e] at e2
      injection e2 with e2 e3
      subst e2
      walk_at "rd"
      unfold writB
      walk_at "rd"
      have sG : Sub G (updD G f (.lst (pre.map lineD))) := Sub.new hf
      rcases q with ⟨h1, q⟩ | ⟨h1, h2, q⟩
      · exact ⟨p, rfl, hp, fun h => (by rw [h1] at h; cases h), fun _ => q _ sG⟩
      · refine ⟨p, rfl, hp, fun _ => ?_, fun h => (by rw [h1] at h; cases h)⟩
        exact ⟨gs, rfl, hg, hgl, fun h => absurd h h2, fun _ => q _ sG⟩
end K17
/-! ### k17: _law_changed, walked -/
namespace K17
open PySem PySem.Spec PyProof.Rows L2 Cc TL
open SX (S)
open PySem.NumText (AllDigits digitsVal)
abbrev sm (ps : List (List Nat)) : Nat := (ps.map fun p => p.length + 1).sum
theorem sm_app (a b : List (List Nat)) : sm (a ++ b) = sm a + sm b := by unfold sm; rw [List.map_append, List.sum_append]
theorem sm_cons (p : List Nat) (b : List (List Nat)) : sm (p :: b) = p.length + 1 + sm b := by unfold sm; rw [List.map_cons, List.sum_cons]
theorem join_le (c : Nat) (ps : List (List Nat)) : (joinL [c] ps).length + 1 ≤ sm ps + 1 := by
  cases ps with
  | nil => simp [joinL]
  | cons p r => rw [join_len c (by simp)]; exact Nat.le_succ _
theorem vcut_fromA {l : List D} {i : Nat} : Cc.cutD l (some (i : Int)) none = l.drop i := by
  by_cases h : i ≤ l.length
  · exact vcut_from h
  · unfold Cc.cutD
    rw [HT.sIx_nat, HT.sIx_none, Nat.min_eq_right (by omega), List.drop_length, List.drop_eq_nil_of_le (by omega)]
    exact List.take_nil
theorem chg_end {ps ws : List (List Nat)} {i : Nat} {o0 o1 o5 o6 o7 o8 : Option D} {G : DH} {Dn : DEnds} (hi : i < ps.length) (hp : sm ps ≤ 50000) (hw : sm ws ≤ 10000)
    (q : Dn.rt (.str (S (joinL [10] (ps.take i ++ [joinL [32] ws] ++ ps.drop (i + 1))))) G) : chgE Dn [o0, o1, some (.rol (ps.map strS)), some (.int (i : Int)), some (.rol (ws.map strS)), o5, o6, o7, o8] G := by
  have hn := num_sum ps
  unfold chgE dSl oNo oSome
  walk_at "rd"
  refine ⟨rfl, ?_⟩
  rw [s_space, s_line, vcut_to (by rw [List.length_map]; omega)]
  refine ⟨rfl, vjoin (by unfold sm at hw; omega) ?_⟩
  refine ⟨by rw [List.length_take, List.length_map, sizeLine_eq]; unfold sm at hp; omega, ?_⟩
  rw [show ((i : Int) + 1) = ((i + 1 : Nat) : Int) by omega, vcut_fromA]
  refine ⟨by rw [List.length_append, List.length_take, List.length_drop, List.length_map, sizeLine_eq]; unfold sm at hp; simp; omega, ?_⟩
  rw [show ((ps.map strS).take i ++ [D.str (S (joinL [32] ws))] ++ (ps.map strS).drop (i + 1)) = (ps.take i ++ [joinL [32] ws] ++ ps.drop (i + 1)).map strS by rw [List.map_append, List.map_append, List.map_take, List.map_drop]; rfl]
  refine vjoin ?_ q
  have e := (take_at hi []).1
  have e1 : sm ps = sm (ps.take i) + ((ps.getD i []).length + 1 + sm (ps.drop (i + 1))) := by
    conv => lhs; rw [e]
    rw [sm_app, sm_cons]
  have e2 := join_le 32 ws
  show sm _ ≤ _
  rw [sm_app, sm_app, sm_cons]
  simp only [sm, List.map_nil, List.sum_nil] at *
  omega
/-- how long the text is then -/
theorem chg_len {t : List Nat} {ws : List (List Nat)} {i : Nat} (hi : i < (spl [10] 0 [] t).length) (hw : sm ws ≤ sm (spl [32] 0 [] ((spl [10] 0 [] t).getD i [])) + 20) :
    (joinL [10] ((spl [10] 0 [] t).take i ++ [joinL [32] ws] ++ (spl [10] 0 [] t).drop (i + 1))).length ≤ t.length + 40 := by
  have e := (take_at hi []).1
  have a : sm (spl [10] 0 [] t) = t.length + 1 := spl_sum 10 t
  have b : sm (spl [32] 0 [] ((spl [10] 0 [] t).getD i [])) = ((spl [10] 0 [] t).getD i []).length + 1 := spl_sum 32 _
  have e1 : sm (spl [10] 0 [] t) = sm ((spl [10] 0 [] t).take i) + (((spl [10] 0 [] t).getD i []).length + 1 + sm ((spl [10] 0 [] t).drop (i + 1))) := by
    conv => lhs; rw [e]
    rw [sm_app, sm_cons]
  have e2 := join_le 32 ws
  have e3 := join_len 10 (ps := (spl [10] 0 [] t).take i ++ [joinL [32] ws] ++ (spl [10] 0 [] t).drop (i + 1)) (by simp)
  have e4 : sm ((spl [10] 0 [] t).take i ++ [joinL [32] ws] ++ (spl [10] 0 [] t).drop (i + 1)) = sm ((spl [10] 0 [] t).take i) + ((joinL [32] ws).length + 1) + sm ((spl [10] 0 [] t).drop (i + 1)) := by
    rw [sm_app, sm_app, sm_cons]
    simp [sm]
  unfold sm at *
  omega
theorem sm_set : ∀ (ws : List (List Nat)) (k : Nat) (w : List Nat), sm (ws.set k w) ≤ sm ws + w.length - (ws.getD k []).length
  | [], _, _ => by simp [sm]
  | x :: ws, 0, w => by
    rw [List.set_cons_zero, sm_cons, sm_cons]
    simp
    omega
  | x :: ws, k + 1, w => by
    have i := sm_set ws k w
    rw [List.set_cons_succ, sm_cons, sm_cons]
    have : (x :: ws).getD (k + 1) [] = ws.getD k [] := by simp [List.getD_eq_getElem?_getD]
    rw [this]
    have h : (ws.getD k []).length ≤ sm ws := by
      rw [List.getD_eq_getElem?_getD]
      cases h : ws[k]? with
      | none => simp
      | some y =>
        have hy : y ∈ ws := List.mem_of_getElem? h
        have := le_sum (f := fun p => p.length + 1) hy
        show y.length ≤ _
        unfold sm
        omega
    omega
theorem sm_take (ws : List (List Nat)) (k : Nat) : sm (ws.take k) + sm (ws.drop k) = sm ws := by rw [← sm_app, List.take_append_drop]
theorem sm_drop (ws : List (List Nat)) (k : Nat) : sm (ws.drop (k + 1)) ≤ sm (ws.drop k) := by
  have a := sm_take (ws.drop k) 1
  rw [List.drop_drop] at a
  have : k + 1 = k + 1 := rfl
  omega
theorem chg_menu : ∀ x ∈ ([.str "", .str "-", .str "0", .str "00", .str "1000", .str "999", .str "13", .str "51", .str "101", .str "1,2", .str "2,1", .str "1,1", .str "8", .str "0,1,2,3,4,5,6", .str "-1"] ++ [.str "x", .str "1,"] : List D), ∃ w, x = strS w ∧ w.length ≤ 13 := fun x hx => by
  have key : ∀ z : Str, z.length ≤ 13 → ∃ w, D.str z = strS w ∧ w.length ≤ 13 := fun z hz => ⟨tl z, by unfold strS; rw [SX.S_tl], by rw [← len_tl]; exact hz⟩
  simp only [List.cons_append, List.nil_append, List.mem_cons, List.not_mem_nil, or_false] at hx
  rcases hx with rfl | rfl | rfl | rfl | rfl | rfl | rfl | rfl | rfl | rfl | rfl | rfl | rfl | rfl | rfl | rfl | rfl <;> exact key _ (by decide +kernel)
theorem chg_menu4 : ∀ x ∈ ([.str ",", .str "0", .str ",7", .str "-"] : List D), ∃ w, x = strS w ∧ w.length ≤ 13 := fun x hx => by
  have key : ∀ z : Str, z.length ≤ 13 → ∃ w, D.str z = strS w ∧ w.length ≤ 13 := fun z hz => ⟨tl z, by unfold strS; rw [SX.S_tl], by rw [← len_tl]; exact hz⟩
  simp only [List.mem_cons, List.not_mem_nil, or_false] at hx
  rcases hx with rfl | rfl | rfl | rfl <;> exact key _ (by decide +kernel)
theorem chg_if {ws : List (List Nat)} {k : Nat} {w : List Nat} {r : Int} {a b : Addr} {l : List D} {o1 o2 o3 o6 : Option D} {G : DH} {Dn : DEnds} (hk : k < ws.length + 1) (hne : ws ≠ []) (hws : sm ws ≤ 9000) (hw : w.length ≤ 13) (r0 : 0 ≤ r) (r1 : r < 4) (hba : b ≠ a) (dl : Draws l)
    (q : ∀ (X : D) (ws' : List (List Nat)) (c : C) (l' : List D) (o5 : Option D), Draws l' → sm ws' ≤ sm ws + 20 → (X = .rol (ws'.map strS) ∨ (X = .ref b ∧ c = .lst (ws'.map strS))) → Dn.nx [some (.ref a), o1, o2, o3, some X, o5, o6, some (strS w), some (.int r)] (updD (updD G a (.lst l')) b c)) :
    chgI Dn [some (.ref a), o1, o2, o3, some (.ref b), some (.int (k : Int)), o6, some (strS w), some (.int r)] (updD (updD G a (.lst l)) b (.lst (ws.map strS))) := by
  have hwl := num_sum ws
  have hsz : ws.length ≤ 9000 := by unfold sm at hws; omega
  unfold chgI dSl oNo oSome
  walk_at "rd"
  have hlst : lstOf (updD (updD G a (.lst l)) b (.lst (ws.map strS))) (.ref b) = some (ws.map strS) := by unfold lstOf; dsimp only; rw [updD_same]
  by_cases h0 : r = 0
  · rw [if_pos h0]
    unfold sSlF
    simp only [D.tl, hlst]
    rw [vcut_to (by rw [List.length_map]; omega), show ((k : Int) + 1) = ((k + 1 : Nat) : Int) by omega, vcut_fromA]
    walk_at "rd"
    refine ⟨by rw [List.length_take, List.length_drop, List.length_map, sizeLine_eq]; omega, ?_⟩
    refine q _ (ws.take k ++ ws.drop (k + 1)) _ l _ dl ?_ (.inl (by rw [List.map_append, List.map_take, List.map_drop]))
    have a1 := sm_take ws k
    have a2 := sm_drop ws k
    rw [sm_app]
    omega
  · rw [if_neg h0]
    by_cases h3 : r < 3
    · rw [if_pos h3]
      unfold sSlF
      simp only [D.tl, hlst]
      rw [vcut_to (by rw [List.length_map]; omega)]
      walk_at "rd"
      have e : ∃ m : Nat, (k : Int) + r - 1 = (m : Nat) ∧ k ≤ m := ⟨((k : Int) + r - 1).toNat, by omega, by omega⟩
      obtain ⟨m, em, hm⟩ := e
      rw [em]
      refine ⟨by rw [List.length_take, List.length_map, sizeLine_eq]; omega, ?_⟩
      simp only [hlst]
      rw [vcut_fromA]
      refine ⟨by rw [List.length_append, List.length_take, List.length_drop, List.length_map, sizeLine_eq]; simp; omega, ?_⟩
      refine q _ (ws.take k ++ [w] ++ ws.drop m) _ l _ dl ?_ (.inl (by rw [List.map_append, List.map_append, List.map_take, List.map_drop]; rfl))
      have a1 := sm_take ws k
      have a2 : sm (ws.drop m) ≤ sm (ws.drop k) := by
        have := sm_take (ws.drop k) (m - k)
        rw [List.drop_drop, show k + (m - k) = m by omega] at this
        omega
      rw [sm_app, sm_app, sm_cons]
      simp only [sm, List.map_nil, List.sum_nil] at *
      omega
    · rw [if_neg h3]
      rw [List.length_map]
      have hpos := List.length_pos_iff.mpr hne
      have e : ∃ m : Nat, (if ((ws.length : Nat) : Int) - 1 < (k : Int) then ((ws.length : Nat) : Int) - 1 else (k : Int)) = (m : Nat) ∧ m < ws.length := by
        by_cases h : ((ws.length : Nat) : Int) - 1 < (k : Int)
        · rw [if_pos h]; exact ⟨ws.length - 1, by omega, by omega⟩
        · rw [if_neg h]; exact ⟨k, rfl, by omega⟩
      obtain ⟨m, em, hm⟩ := e
      rw [em]
      have eat : L2.atI (ws.map strS) (m : Int) = some (strS (ws.getD m [])) := Cc.atI_nat (by rw [List.getElem?_map, List.getD_eq_getElem?_getD, List.getElem?_eq_getElem hm]; rfl)
      rw [eat]
      dsimp only
      refine off_use2 hba dl (by decide) (by decide) fun s l' s0 s1 dl' => ?_
      refine menuD s0 s1 fun x hx => ?_
      obtain ⟨z, rfl, hz⟩ := chg_menu4 x hx
      unfold strS
      rw [vadd_str]
      have hlen : (ws.getD m []).length ≤ sm ws := by
        rw [List.getD_eq_getElem?_getD, List.getElem?_eq_getElem hm]
        have := le_sum (f := fun p => p.length + 1) (List.getElem_mem hm)
        show (ws[m]).length ≤ _
        unfold sm
        omega
      refine ⟨by rw [S_len, S_len, sizeLine_eq]; omega, ?_⟩
      rw [SX.S_cat]
      unfold gS dSetL setF
      walk_at "rd"
      simp only [updD_same]
      refine ⟨m, by unfold L2.ixN; rw [if_pos (by omega), if_pos (by rw [List.length_map]; omega)]; rfl, ?_⟩
      rw [updD_updD]
      refine q (.ref b) (ws.set m (ws.getD m [] ++ z)) _ l' _ dl' ?_ (.inr ⟨rfl, by rw [List.map_set]; rfl⟩)
      have a1 := sm_set ws m (ws.getD m [] ++ z)
      rw [List.length_append] at a1
      omega
theorem pure__law_changed (ds : List D) (G : DH) (R : DK) (EX : DX) (h : sd__law_changed ds G R EX) : b__law_changed (endsD (frg R) EX) (startD N__law_changed ds) G := by
  obtain ⟨a, l, t, rfl, hG, dl, ht, q⟩ := h
  rw [← updD_id hG]
  show b__law_changed (endsD (frg R) EX) [some (.ref a), some (.str (S t)), none, none, none, none, none, none, none] _
  unfold b__law_changed
  walk_at "rd"
  have htb : t.length ≤ big := by omega
  have hbig : big = 5000 := rfl
  refine vsplitF (c := 10) rfl (by decide +kernel) (by decide) htb ?_
  rw [vlen_rol, List.length_map]
  have hn := spl_num 10 t
  have hne := List.length_pos_iff.mpr (spl_ne 10 t)
  refine off_use dl (by omega) (by omega) fun r l r0 r1 dl => ?_
  obtain ⟨i, rfl⟩ := Int.eq_ofNat_of_zero_le r0
  have hi : i < (spl [10] 0 [] t).length := by omega
  unfold dSplitR
  walk_at "rd"
  have hcl := @chg_len t
  have hpl : sm (spl [10] 0 [] t) = t.length + 1 := spl_sum 10 t
  have hline : ((spl [10] 0 [] t).getD i []).length ≤ t.length := by
    refine spl_len (c := 10) ?_
    rw [List.getD_eq_getElem?_getD, List.getElem?_eq_getElem hi]
    exact List.getElem_mem hi
  generalize spl [10] 0 [] t = ps at *
  rw [show L2.atI (ps.map strS) (i : Int) = some (strS (ps.getD i [])) from Cc.atI_nat (by rw [List.getElem?_map, List.getD_eq_getElem?_getD, List.getElem?_eq_getElem hi]; rfl)]
  refine ⟨S (ps.getD i []), rfl, _, rfl, by decide +kernel, by rw [S_len, sizeLine_eq]; omega, fun b hb => ?_⟩
  have hba : b ≠ a := (none_up hb).2
  have hws : sm (spl [32] 0 [] (ps.getD i [])) = (ps.getD i []).length + 1 := spl_sum 32 _
  have hwne := spl_ne 32 (ps.getD i [])
  have hwn := spl_num 32 (ps.getD i [])
  have hcl := @hcl
  rw [s_space, split_c (by decide)]
  generalize hww : spl [32] 0 [] (ps.getD i []) = ws at *
  rw [List.length_map]
  refine off_use2 hba dl (by omega) (by omega) fun r l k0 k1 dl => ?_
  obtain ⟨k, rfl⟩ := Int.eq_ofNat_of_zero_le k0
  refine ⟨by rw [sizeLine_eq]; decide, ?_⟩
  refine ⟨by rw [sizeLine_eq]; decide, ?_⟩
  refine off_use2 hba dl (by decide) (by decide) fun r l m0 m1 dl => ?_
  refine menuD m0 m1 fun x hx => ?_
  obtain ⟨w, rfl, hw⟩ := chg_menu x hx
  refine off_use2 hba dl (by decide) (by decide) fun r l n0 n1 dl => ?_
  refine chg_if (by omega) hwne (by omega) hw n0 n1 hba dl fun X ws' c l' o5 dl' hs hX => ?_
  have hsub : Sub (updD G a (.lst l')) (updD (updD G a (.lst l')) b c) := Sub.new (by
    rw [updD_ne hba]
    exact (none_up hb).1)
  have hbn : updD G a (.lst l') b = none := by rw [updD_ne hba]; exact (none_up hb).1
  rcases hX with rfl | ⟨rfl, rfl⟩
  · show chgE _ _ _
    refine chg_end hi (by omega) (by omega) ?_
    exact ⟨_, hsub, q _ l' (hcl hi (by rw [hww]; exact hs)) dl'⟩
  · dsimp only
    refine sFz_lst (p := b) rfl updD_same ?_
    rw [delD_updD hbn]
    refine chg_end hi (by omega) (by omega) ?_
    exact frg_of (q _ l' (hcl hi (by rw [hww]; exact hs)) dl')
end K17
/-! ### k17: _law_is_right, walked -/
namespace K17
open PySem PySem.Spec PyProof.Rows L2 Cc TL
open SX (S)
/-! calls as data -/
def natsT (ns : List Nat) : PyData := .tuple ((ns.map natI).map .int)
def callT (c : List Nat × List Nat) : PyData := .tuple [natsT c.1, natsT c.2]
theorem nats_rdd (ns : List Nat) (G : DH) : Rdd G (natsD ns) (natsT ns) := by
  rw [natsD_eq, natsI]
  exact .tup rfl (rdd_map fun _ _ => .int _)
theorem call_rdd (c : List Nat × List Nat) (G : DH) : Rdd G (callD c) (callT c) := .tup rfl (.cons (nats_rdd _ G) (.cons (nats_rdd _ G) .nil))
theorem calls_rdd (cs : List (List Nat × List Nat)) (G : DH) : RddL G (cs.map callD) (cs.map callT) := rdd_map fun c _ => call_rdd c G
theorem nats_depth (ns : List Nat) : (natsT ns).depth ≤ 2 := by
  unfold natsT
  rw [PyData.depth]
  have : PyData.depthAll ((ns.map natI).map PyData.int) ≤ 1 := dep_map fun p _ => by simp [PyData.depth]
  omega
theorem call_depth (c : List Nat × List Nat) : (callT c).depth ≤ 3 := by
  have a := nats_depth c.1
  have b := nats_depth c.2
  simp only [callT, PyData.depth, PyData.depthAll]
  omega
theorem calls_depth (cs : List (List Nat × List Nat)) : (PyData.list (cs.map callT)).depth ≤ 4 := by
  rw [PyData.depth]
  have : PyData.depthAll (cs.map callT) ≤ 3 := dep_map fun c _ => call_depth c
  omega
theorem nats_lean {ns : List Nat} (h : ns.length ≤ 10) : lean (natsT ns) = true := by
  unfold natsT
  rw [lean, Bool.and_eq_true, decide_eq_true_eq]
  exact ⟨by rw [List.length_map, List.length_map]; omega, lean_map fun _ _ => rfl⟩
theorem call_lean {c : List Nat × List Nat} (h : PFit c.1 ∧ GFit c.2) : lean (callT c) = true := by
  have a := nats_lean (ns := c.1) (by rw [h.1.len]; decide)
  have b := nats_lean (ns := c.2) (by have := h.2.2.1; omega)
  simp only [callT, lean, leanAll, a, b, List.length_cons, List.length_nil, Bool.and_true, decide_eq_true_eq]
  decide
theorem calls_lean {cs : List (List Nat × List Nat)} (h : ∀ c ∈ cs, PFit c.1 ∧ GFit c.2) (hl : cs.length ≤ 100000) : lean (.list (cs.map callT)) = true := by
  rw [lean, Bool.and_eq_true, decide_eq_true_eq]
  exact ⟨by rw [List.length_map]; exact hl, lean_map fun c hc => call_lean (h c hc)⟩
theorem calls_alike {cs : List (List Nat × List Nat)} {p : Addr} {G : DH} {R : DK} {EX : DX} (h : ∀ c ∈ cs, PFit c.1 ∧ GFit c.2) (hl : cs.length ≤ 100000) (hp : G p = some (.lst (cs.map callD))) (q : R (.bl true) G) : sd__law_alike 6 [.ref p, .rol (cs.map callD)] G R EX :=
  ⟨_, _, .list (cs.map callT), rfl, .lst hp (calls_rdd cs G), .rol (calls_rdd cs G), Nat.le_succ_of_le (calls_depth cs), calls_lean h hl, q⟩
/-! the first bad line -/
theorem first_none {α β : Type} {f : α → Option β} {l1 r1 l2 r2 : List α} {a b : α} {c1 c2 : List β} (e : l1 ++ a :: r1 = l2 ++ b :: r2) (h1 : l1.map f = c1.map some) (h2 : l2.map f = c2.map some) (ha : f a = none) (hb : f b = none) : l1.length = l2.length := by
  have key : ∀ {l1 r1 l2 r2 : List α} {a b : α} {c2 : List β}, l1 ++ a :: r1 = l2 ++ b :: r2 → l2.map f = c2.map some → f a = none → ¬ l1.length < l2.length := fun {l1 r1 l2 r2 a b c2} e h2 ha hlt => by
    have e1 : (l1 ++ a :: r1)[l1.length]? = some a := by rw [List.getElem?_append_right (Nat.le_refl _)]; simp
    rw [e, List.getElem?_append_left hlt] at e1
    have hm : f a ∈ l2.map f := List.mem_map_of_mem (List.mem_of_getElem? e1)
    rw [ha, h2] at hm
    obtain ⟨x, -, hx⟩ := List.mem_map.mp hm
    cases hx
  have k1 := key e h2 ha
  have k2 := key e.symm h1 hb
  omega
theorem no_none {α β : Type} {f : α → Option β} {l : List α} {a : α} {c : List β} (ha : a ∈ l) (h : l.map f = c.map some) : f a ≠ none := fun e => by
  have hm : f a ∈ l.map f := List.mem_map_of_mem ha
  rw [e, h] at hm
  obtain ⟨x, -, hx⟩ := List.mem_map.mp hm
  cases hx
theorem fit_of {ls : List (List Nat)} {cs : List (List Nat × List Nat)} (h : ls.map lineOf = cs.map some) : ∀ c ∈ cs, PFit c.1 ∧ GFit c.2 := fun c hc => by
  have hm : some c ∈ cs.map some := List.mem_map_of_mem hc
  rw [← h] at hm
  obtain ⟨l, -, e⟩ := List.mem_map.mp hm
  obtain ⟨a, b, -⟩ := lineOf_iff.mp e
  exact ⟨a, b⟩
theorem pure__law_is_right (C : Addr) (okR : Str → Addr → Option Int → Prop) (ok : ∀ n, okR "text" C (some n)) (ds : List D) (G : DH) (R : DK) (EX : DX) (h : sd__law_is_right ds G R EX) : b__law_is_right C okR (endsD (frg R) EX) (startD N__law_is_right ds) G := by
  obtain ⟨t, rfl, ht, q⟩ := h
  show b__law_is_right C okR (endsD (frg R) EX) [some (.str (S t)), none, none, none, none] G
  have hls : ∀ l ∈ linesOf t, l.length ≤ big := fun l hl => by have := lines_len hl; omega
  have hnum : (linesOf t).length ≤ big + 1 := by have := lines_num t; omega
  have hbig : big = 5000 := rfl
  unfold b__law_is_right
  walk_at "rd"
  intro f hf
  have main : sFor (iRange1 (dCB dLen (dCons (dVar 2) dNil))) (gN 3) (rightB C okR) { endsD (frg R) EX with nx := sFz 1 (rightE C) (endsD (frg R) EX) } [some (.str (S t)), some (.ref f), some (.rol ((linesOf t).map strS)), none, none] (updD G f (.lst [])) := by
    unfold sFor iRange1
    walk_at "rd"
    rw [List.length_map]
    refine ⟨by omega, ?_⟩
    rw [Int.toNat_natCast, rangeD_map]
    refine goFor_map (f := fun i : Nat => D.int (i : Int)) (fun xs δ G' => ∃ pre cs o3 o4, pre ++ xs = List.range (linesOf t).length ∧ δ = [some (.str (S t)), some (.ref f), some (.rol ((linesOf t).map strS)), o3, o4] ∧ ((linesOf t).take pre.length).map lineOf = cs.map some ∧ G' = updD G f (.lst (cs.map callD)))
      (fun _ _ _ _ => trivial) (fun δ G' ⟨pre, cs, o3, o4, ep, eδ, ec, eG⟩ => ?_) (fun x xs δ G' N ⟨pre, cs, o3, o4, ep, eδ, ec, eG⟩ hN => ?_) _ _ _ ⟨[], [], none, none, rfl, rfl, rfl, rfl⟩
    · subst eδ eG
      have hl := congrArg List.length ep
      rw [List.length_append, List.length_nil, List.length_range] at hl
      rw [show pre.length = (linesOf t).length by omega, List.take_length] at ec
      have hcl : cs.length = (linesOf t).length := by
        have := congrArg List.length ec
        rw [List.length_map, List.length_map] at this
        exact this.symm
      dsimp only
      refine sFz_lst (p := f) rfl updD_same ?_
      rw [delD_updD hf]
      unfold rightE
      walk_at "rd"
      refine ⟨t, rfl, ht, fun cs' hc p hp => ?_, fun l1 rs l cs' e1 e2 e3 => ?_⟩
      · have : cs' = cs := by
          rw [ec] at hc
          exact (List.map_inj_right (fun a b h => Option.some.inj h) |>.mp hc).symm
        subst this
        exact calls_alike (fit_of ec) (by omega) updD_same ⟨G, Sub.new hp, q⟩
      · exact absurd e3 (no_none (by rw [e1]; simp) ec)
    · subst eδ eG
      obtain ⟨ex, hx⟩ := range_mid ep
      obtain ⟨e1, e2⟩ := take_at hx []
      have hc : cs.length = x := by
        have := congrArg List.length ec
        rw [List.length_map, List.length_map, List.length_take] at this
        omega
      unfold rightB
      walk_at "rd"
      rw [show L2.atI ((linesOf t).map strS) (x : Int) = some (strS ((linesOf t).getD x [])) from Cc.atI_nat (by rw [List.getElem?_map, List.getD_eq_getElem?_getD, List.getElem?_eq_getElem hx]; rfl)]
      refine ⟨(linesOf t).getD x [], rfl, hls _ (by rw [List.getD_eq_getElem?_getD, List.getElem?_eq_getElem hx]; exact List.getElem_mem hx), ?_⟩
      cases el : lineOf ((linesOf t).getD x []) with
      | none =>
        unfold callO
        walk_at "rd"
        refine ⟨"text", C, some (x : Int), .int (x : Int), rfl, rfl, ok _, fun n e => by cases e; rfl, ?_⟩
        walk_at "rd"
        refine ⟨t, rfl, ht, fun cs' hcs => ?_, fun l1 rs l cs' f1 f2 f3 G2 d s2 hd => ⟨rfl, ?_, fun G3 s3 => ?_⟩⟩
        · exact absurd el (no_none (by rw [List.getD_eq_getElem?_getD, List.getElem?_eq_getElem hx]; exact List.getElem_mem hx) hcs)
        · have hlen := first_none (e1.symm.trans f1) (by rw [ex]; exact ec) f2 el f3
          rw [List.length_take, Nat.min_eq_left (by omega)] at hlen
          rw [← hlen] at hd
          exact hd
        · exact ⟨G, (Sub.new hf).trans (s2.trans s3), q⟩
      | some c =>
        unfold callO callD
        walk_at "rd"
        refine ⟨by rw [List.length_map, sizeLine_eq]; omega, ?_⟩
        refine hN _ _ ⟨pre ++ [x], cs ++ [c], _, _, by rw [List.append_assoc]; exact ep, rfl, ?_, ?_⟩
        · rw [List.length_append, List.length_singleton, ← ex, e2, List.map_append, List.map_append, ← ec, ex]
          rw [List.map_cons, List.map_nil, List.map_cons, List.map_nil, ← ex, el]
        · rw [List.map_append]; rfl
  rw [show (Str.ofString "" : Str) = S [] by decide +kernel]
  refine vne_strS ?_
  walk_at "rd"
  by_cases h0 : t = []
  · rw [decide_eq_true h0, if_neg (by decide)]
    have e0 : linesOf t = [] := by unfold linesOf; rw [if_pos h0]
    rw [e0] at main
    exact main
  · rw [decide_eq_false h0, if_pos (by decide)]
    have e0 : linesOf t = spl [10] 0 [] t := by unfold linesOf; rw [if_neg h0]
    refine vsplitF (c := 10) rfl s_line (by decide) ht ?_
    rw [← e0]
    exact main
end K17
/-! ### k17: the law's turn, walked: calls that cannot be -/
namespace K17
open PySem PySem.Spec PyProof.Rows L2 Cc TL
open SX (S)
def gTest (xs : List D) : Bool := xs.all (Pl.btw · 0 7) && decide (xs.length ≤ 6) && decide ((xs.map fun d => match d with | .int i => i | _ => 0).Pairwise (· < ·))
theorem gTest_of {xs : List D} (h : gTest xs = false) : ¬ isGuests xs := by
  rintro ⟨gs, e, h1, h2, h3⟩
  have e : xs = gs.map natD := e
  subst e
  rw [show gTest (gs.map natD) = true from ?_] at h
  · cases h
  unfold gTest
  rw [Bool.and_eq_true, Bool.and_eq_true, decide_eq_true_eq, decide_eq_true_eq, List.all_eq_true, List.length_map, List.map_map]
  refine ⟨⟨fun x hx => ?_, h2⟩, ?_⟩
  · obtain ⟨n, hn, rfl⟩ := List.mem_map.mp hx
    exact btw_nat (h3 n hn)
  · exact nats_rise.mpr h1
/-- a call that cannot be, and the word of its refusal -/
def Bad (y : D) (w : Str) : Prop := ∃ p gs : List D, y = .tup [.tup p, .tup gs] ∧ (∀ x ∈ p, Pl.Atom x) ∧ (∀ x ∈ gs, Pl.Atom x) ∧ gs.length ≤ 1000 ∧ ((w = "plan" ∧ Pl.isPlan p = false) ∨ (w = "hand" ∧ Pl.isPlan p = true ∧ ¬ isGuests gs))
def atomB : D → Bool
  | .non => true | .bl _ => true | .int _ => true | .str _ => true | _ => false
theorem atom_of {x : D} (h : atomB x = true) : Pl.Atom x := by
  cases x <;> first | (cases h; done) | constructor
theorem atoms_of {xs : List D} (h : xs.all atomB = true) : ∀ x ∈ xs, Pl.Atom x := fun x hx => atom_of (List.all_eq_true.mp h x hx)
theorem bad_plan {p gs : List D} (h1 : (p.all atomB && gs.all atomB && decide (gs.length ≤ 1000) && !Pl.isPlan p) = true) : Bad (.tup [.tup p, .tup gs]) "plan" := by
  simp only [Bool.and_eq_true, decide_eq_true_eq, Bool.not_eq_true'] at h1
  exact ⟨p, gs, rfl, atoms_of h1.1.1.1, atoms_of h1.1.1.2, h1.1.2, .inl ⟨rfl, h1.2⟩⟩
theorem bad_hand {p gs : List D} (h1 : (p.all atomB && gs.all atomB && decide (gs.length ≤ 1000) && Pl.isPlan p && !gTest gs) = true) : Bad (.tup [.tup p, .tup gs]) "hand" := by
  simp only [Bool.and_eq_true, decide_eq_true_eq, Bool.not_eq_true'] at h1
  exact ⟨p, gs, rfl, atoms_of h1.1.1.1.1, atoms_of h1.1.1.1.2, h1.1.1.2, .inr ⟨rfl, h1.1.2, gTest_of h1.2⟩⟩
section
variable {CH CP CT a : Addr} {okR : Str → Addr → Option Int → Prop} {Dn : DEnds} {G : DH} {l : List D} {cs : List (List Nat × List Nat)} {o0 o2 o4 o5 o6 o7 o8 o9 o10 o11 o12 o13 o14 o15 o16 o17 o18 : Option D}
theorem t14 (okP : okR "plan" CP none) (okH : okR "hand" CH none) (hfit : ∀ c ∈ cs, PFit c.1 ∧ GFit c.2) (hl : cs.length ≤ 31) {i : Nat} (hi : i ≤ cs.length) {y : D} {w : Str} (hb : Bad y w) (hG : G a = some (.lst l)) (dl : Draws l)
    (q : ∀ o13 G' l', G' a = some (.lst l') → Draws l' → Dn.nx [o0, some (.ref a), o2, some (.rol (cs.map callD)), o4, o5, o6, o7, o8, o9, o10, o11, o12, o13, o14, some (.int (i : Int)), some y, some (.str w), o18] G') :
    lwT14 CH CP okR Dn [o0, some (.ref a), o2, some (.rol (cs.map callD)), o4, o5, o6, o7, o8, o9, o10, o11, o12, o13, o14, some (.int (i : Int)), some y, some (.str w), o18] G := by
  unfold lwT14 dSl oNo oSome
  walk_at "rd"
  rw [vcut_to (by rw [List.length_map]; exact hi), vcut_fromA]
  refine ⟨by rw [List.length_take, List.length_map, sizeLine_eq]; omega, ?_⟩
  refine ⟨by rw [List.length_append, List.length_take, List.length_drop, List.length_map, sizeLine_eq]; simp; omega, ?_⟩
  unfold dRepL
  walk_at "rd"
  intro p hp
  have hpa : p ≠ a := Ne.symm (neD hG hp)
  refine off_at (by rw [updD_ne (Ne.symm hpa)]; exact hG) dl (by decide) (by decide) fun r l' r0 r1 dl' => ?_
  refine ⟨r, rfl, by rw [updD_ne hpa]; exact updD_same, by omega, by omega, by rw [sizeLine_eq]; omega, ?_⟩
  generalize hrep : (List.replicate r.toNat [D.tup [D.tup [.int 0, .int 1, .int 1, .int 1], D.tup [.int (-1)]]]).flatten = rep
  have hrl : rep.length ≤ 1 := by
    rw [← hrep]
    rcases (show r = 0 ∨ r = 1 by omega) with rfl | rfl <;> decide
  refine ⟨by rw [List.length_append, List.length_append, List.length_take, List.length_drop, List.length_map, sizeLine_eq]; simp; omega, ?_⟩
  rw [show (cs.map callD).take i ++ [y] ++ (cs.map callD).drop i ++ rep = (cs.take i).map callD ++ (y :: ((cs.map callD).drop i ++ rep)) by rw [List.map_take]; simp]
  have hG2 : updD (updD G p (.lst [D.tup [D.tup [.int 0, .int 1, .int 1, .int 1], D.tup [.int (-1)]]])) a (.lst l') a = some (.lst l') := updD_same
  generalize updD (updD G p (.lst [D.tup [D.tup [.int 0, .int 1, .int 1, .int 1], D.tup [.int (-1)]]])) a (.lst l') = G2 at hG2 ⊢
  clear hrep
  generalize (cs.map callD).drop i ++ rep = rest
  have hfit2 : ∀ c ∈ cs.take i, PFit c.1 ∧ GFit c.2 := fun c hc => hfit c (List.mem_of_mem_take hc)
  have hlen2 : (cs.take i).length ≤ 100 := by rw [List.length_take]; omega
  have fin : ∀ o13 G3, Sub G2 G3 → Dn.nx [o0, some (.ref a), o2, some (.rol (cs.map callD)), o4, o5, o6, o7, o8, o9, o10, o11, o12, o13, o14, some (.int (i : Int)), some y, some (.str w), o18] G3 := fun o13 G3 s => q _ _ _ (s _ _ hG2) dl'
  obtain ⟨p', gs, rfl, hp', hgs, hgl, hbad⟩ := hb
  rcases hbad with ⟨rfl, h1⟩ | ⟨rfl, h1, h2⟩
  · refine ⟨"plan", CP, none, .int 0, rfl, rfl, okP, fun n e => (by cases e), ?_⟩
    walk_at "rd"
    exact ⟨cs.take i, _, rfl, hfit2, hlen2, .inr ⟨p', gs, rest, rfl, hp', hgs, hgl, .inl ⟨h1, fun G' s => ⟨rfl, trivial, fun G3 s3 => fin _ _ (s.trans s3)⟩⟩⟩⟩
  · refine ⟨"hand", CH, none, .int 0, rfl, rfl, okH, fun n e => (by cases e), ?_⟩
    walk_at "rd"
    exact ⟨cs.take i, _, rfl, hfit2, hlen2, .inr ⟨p', gs, rest, rfl, hp', hgs, hgl, .inr ⟨h1, h2, fun G' s => ⟨rfl, trivial, fun G3 s3 => fin _ _ (s.trans s3)⟩⟩⟩⟩
theorem odd_menu : ∀ x ∈ ([.tup [.tup [.tup [.int 0, .int 0, .int 1, .int 1], .tup [.int 9]], .str "plan"], .tup [.tup [.tup [.int 0, .int 1, .int 1, .int 1], .tup [.int 8]], .str "hand"], .tup [.tup [.tup [], .tup []], .str "plan"]] : List D), ∃ y w, x = .tup [y, .str w] ∧ Bad y w := fun x hx => by
  simp only [List.mem_cons, List.not_mem_nil, or_false] at hx
  rcases hx with rfl | rfl | rfl
  · exact ⟨_, _, rfl, bad_plan (by decide +kernel)⟩
  · exact ⟨_, _, rfl, bad_hand (by decide +kernel)⟩
  · exact ⟨_, _, rfl, bad_plan (by decide +kernel)⟩
theorem odd_menu9 : ∀ x ∈ ([.tup [.int 5, .int 1], .tup [.int 1, .int 1], .tup [.int 0, .int 1, .int 2, .int 3, .int 4, .int 5, .int 6], .tup [.int 7, .int 0], .tup [.int (-1)], .tup [.bl true], .tup [.int 1, .int 3, .int 2], .tup [.int 0, .int 2, .int 2], .tup [.str "1"]] : List D), Bad (.tup [.tup [.int 0, .int 1, .int 1, .int 1], x]) "hand" := fun x hx => by
  simp only [List.mem_cons, List.not_mem_nil, or_false] at hx
  rcases hx with rfl | rfl | rfl | rfl | rfl | rfl | rfl | rfl | rfl <;> exact bad_hand (by decide +kernel)
theorem t12 (okP : okR "plan" CP none) (okH : okR "hand" CH none) (hfit : ∀ c ∈ cs, PFit c.1 ∧ GFit c.2) (hl : cs.length ≤ 31) {i : Nat} (hi : i ≤ cs.length) (hG : G a = some (.lst l)) (dl : Draws l)
    (q : ∀ o13 o15 o16 o17 o18 G' l', G' a = some (.lst l') → Draws l' → Dn.nx [o0, some (.ref a), o2, some (.rol (cs.map callD)), o4, o5, o6, o7, o8, o9, o10, o11, o12, o13, o14, o15, o16, o17, o18] G') :
    lwT12 CH CP okR Dn [o0, some (.ref a), o2, some (.rol (cs.map callD)), o4, o5, o6, o7, o8, o9, o10, o11, o12, o13, o14, some (.int (i : Int)), o16, o17, o18] G := by
  unfold lwT12
  walk_at "rd"
  refine off_at hG dl (by decide) (by decide) fun r l r0 r1 dl => ?_
  refine menuD r0 r1 fun x hx => ?_
  obtain ⟨y, w, rfl, hb⟩ := odd_menu x hx
  walk_at "rd"
  refine off_at updD_same dl (by decide) (by decide) fun r l r0 r1 dl => ?_
  walk_at "rd"
  by_cases hr : r > 0
  · rw [if_pos hr]
    unfold sPar2
    walk_at "rd"
    refine off_at updD_same dl (by decide) (by decide) fun r l r0 r1 dl => ?_
    refine menuD r0 r1 fun x hx => ?_
    exact t14 okP okH hfit hl hi (odd_menu9 x hx) updD_same dl fun o13 G' l' h1 h2 => q _ _ _ _ _ _ _ h1 h2
  · rw [if_neg hr]
    exact t14 okP okH hfit hl hi hb updD_same dl fun o13 G' l' h1 h2 => q _ _ _ _ _ _ _ h1 h2
end
end K17
/-! ### k17: the law, walked -/
namespace K17
open PySem PySem.Spec PyProof.Rows L2 Cc TL
open SX (S)
theorem text_len {cs : List (List Nat × List Nat)} (h : ∀ c ∈ cs, PFit c.1 ∧ GFit c.2) (hl : cs.length ≤ 31) : (textT cs).length ≤ 1300 := by
  have a := join_le 10 (cs.map fun c => lineT c.1 c.2)
  have b := lines_sum h
  unfold textT
  unfold sm at a
  omega
theorem text_lines {cs : List (List Nat × List Nat)} (h : ∀ c ∈ cs, PFit c.1 ∧ GFit c.2) : (linesOf (textT cs)).map lineOf = cs.map some := by
  rw [lines_text (fun c hc => by
    obtain ⟨n0, n1, n2, n3, e, _⟩ := (h c hc).1
    rw [e]
    simp), List.map_map]
  refine List.map_congr_left fun c hc => ?_
  exact lineOf_iff.mpr ⟨(h c hc).1, (h c hc).2, rfl⟩
theorem some_inj {α : Type} {a b : List α} (h : a.map some = b.map some) : a = b := List.map_inj_right (fun a b h => Option.some.inj h) |>.mp h
/-- read of a text that was written -/
theorem use_read {C : Addr} {cs : List (List Nat × List Nat)} {G : DH} {R : DK} {EX : DX} (h : ∀ c ∈ cs, PFit c.1 ∧ GFit c.2) (hl : cs.length ≤ 31) (q : ∀ p, G p = none → R (.ref p) (updD G p (.lst (cs.map callD)))) : sd_read C [.str (S (textT cs))] G R EX := by
  have e := text_lines h
  refine ⟨textT cs, rfl, by have := text_len h hl; unfold big; omega, fun cs' hc p hp => ?_, fun l1 rs l cs' e1 e2 e3 => absurd e3 (no_none (by rw [e1]; simp) e)⟩
  rw [← some_inj (e.symm.trans hc)]
  exact q p hp
theorem lay_nats (ns : List Nat) : (natsT ns).canLay0 = true := by
  unfold natsT
  rw [PyData.canLay0]
  exact lay_map fun p _ => by simp [PyData.canLay0]
theorem lay_call (c : List Nat × List Nat) : (callT c).canLay0 = true := by
  simp only [callT, PyData.canLay0, PyData.canLayAll0, lay_nats, Bool.and_self]
theorem calls_shaped (cs : List (List Nat × List Nat)) : SeqAt.shaped (.list (cs.map callT)) = true := shaped_by (by
  rw [PyData.canLay0]
  exact lay_map fun c _ => lay_call c) (by have := calls_depth cs; omega)
section
variable {CH CP CT a f g : Addr} {okR : Str → Addr → Option Int → Prop} {Dn : DEnds} {G : DH} {l : List D} {cs : List (List Nat × List Nat)} {o0 o2 o3 o4 o5 o6 o7 o8 o9 o10 o11 o12 o13 o14 o15 o16 o17 o18 : Option D}
theorem t11 (okP : okR "plan" CP none) (okH : okR "hand" CH none) (hfit : ∀ c ∈ cs, PFit c.1 ∧ GFit c.2) (hl : cs.length ≤ 31) (hG : G a = some (.lst l)) (dl : Draws l)
    (q : ∀ o13 o15 o16 o17 o18 G' l', G' a = some (.lst l') → Draws l' → Dn.nx [o0, some (.ref a), o2, some (.rol (cs.map callD)), o4, o5, o6, o7, o8, o9, o10, o11, o12, o13, o14, o15, o16, o17, o18] G') :
    lwT11 CH CP okR Dn [o0, some (.ref a), o2, some (.rol (cs.map callD)), o4, o5, o6, o7, o8, o9, o10, o11, o12, o13, o14, o15, o16, o17, o18] G := by
  unfold lwT11
  walk_at "rd"
  rw [List.length_map]
  refine off_at hG dl (by omega) (by omega) fun r l r0 r1 dl => ?_
  obtain ⟨i, rfl⟩ := Int.eq_ofNat_of_zero_le r0
  exact t12 okP okH hfit hl (by omega) updD_same dl q
theorem t8 (okP : okR "plan" CP none) (okH : okR "hand" CH none) (hfit : ∀ c ∈ cs, PFit c.1 ∧ GFit c.2) (hl : cs.length ≤ 31) (hG : G a = some (.lst l)) (dl : Draws l)
    (q : ∀ o13 o14 o15 o16 o17 o18 G' l', G' a = some (.lst l') → Draws l' → Dn.nx [o0, some (.ref a), o2, some (.rol (cs.map callD)), o4, o5, o6, o7, o8, o9, o10, some (.str (S (textT cs))), o12, o13, o14, o15, o16, o17, o18] G') :
    lwT8 CH CP okR Dn [o0, some (.ref a), o2, some (.rol (cs.map callD)), o4, o5, o6, o7, o8, o9, o10, some (.str (S (textT cs))), o12, o13, o14, o15, o16, o17, o18] G := by
  have htl := text_len hfit hl
  unfold lwT8 sFor iRange1
  walk_at "rd"
  refine off_at hG dl (by decide) (by decide) fun r l r0 r1 dl => ?_
  walk_at "rd"
  refine ⟨⟨by omega, by omega⟩, ?_⟩
  rw [rangeD_map]
  have hn : (1 + r).toNat ≤ 2 := by omega
  refine goFor_map (f := fun i : Nat => D.int (i : Int)) (fun xs δ G' => ∃ t o14, δ = [o0, some (.ref a), o2, some (.rol (cs.map callD)), o4, o5, o6, o7, o8, o9, o10, some (.str (S (textT cs))), o12, some (.str (S t)), o14, o15, o16, o17, o18] ∧ t.length + 40 * xs.length ≤ 2000 ∧ ∃ l, G' a = some (.lst l) ∧ Draws l)
    (fun _ _ _ _ => trivial) (fun δ G' ⟨t, o14, eδ, ht, l, hG, dl⟩ => ?_) (fun x xs δ G' N ⟨t, o14, eδ, ht, l, hG, dl⟩ hN => ?_) _ _ _ ⟨textT cs, _, rfl, by rw [List.length_range]; omega, l, updD_same, dl⟩
  · subst eδ
    walk_at "rd"
    refine ⟨t, rfl, by unfold big; simp at ht; omega, ?_⟩
    walk_at "rd"
    exact t11 okP okH hfit hl hG dl fun o13 o15 o16 o17 o18 => q _ _ _ _ _ _
  · subst eδ
    rw [List.length_cons] at ht
    unfold lwBadB
    walk_at "rd"
    refine ⟨a, l, t, rfl, hG, dl, by unfold big; omega, fun t' l' h1 dl' => ?_⟩
    exact hN _ _ ⟨t', _, rfl, by omega, l', updD_same, dl'⟩
theorem t6 (okP : okR "plan" CP none) (okH : okR "hand" CH none) (hfit : ∀ c ∈ cs, PFit c.1 ∧ GFit c.2) (hl : cs.length ≤ 31) (hG : G a = some (.lst l)) (dl : Draws l)
    (q : ∀ o13 o14 o15 o16 o17 o18 G' l', G' a = some (.lst l') → Draws l' → Dn.nx [o0, some (.ref a), o2, some (.rol (cs.map callD)), o4, o5, o6, o7, o8, o9, o10, some (.str (S (textT cs))), some (.rol (cs.map callD)), o13, o14, o15, o16, o17, o18] G') :
    lwT6 CH CP CT okR Dn [o0, some (.ref a), o2, some (.rol (cs.map callD)), o4, o5, o6, o7, o8, o9, o10, some (.str (S (textT cs))), some (.rol (cs.map callD)), o13, o14, o15, o16, o17, o18] G := by
  unfold lwT6
  walk_at "rd"
  refine ⟨cs, [], by rw [List.append_nil], hfit, by omega, .inl ⟨rfl, ?_⟩⟩
  refine ⟨_, _, .str (S (textT cs)), rfl, .str _, .str _, by simp [PyData.depth], rfl, ?_⟩
  walk_at "rd"
  refine vne_self (calls_rdd cs G) (calls_rdd cs G) (calls_shaped cs) ?_
  walk_at "rd"
  refine use_read hfit hl fun p hp => ?_
  refine calls_alike hfit (by omega) updD_same ?_
  walk_at "rd"
  refine use_read hfit hl fun p2 hp2 => ?_
  refine ⟨ty_lst updD_same, app_at updD_same (by rw [List.length_map, sizeLine_eq]; omega) ?_⟩
  obtain ⟨hp2', np⟩ := none_up hp2
  refine t8 okP okH hfit hl ?_ dl q
  rw [updD_updD, updD_ne (neD (keep_upd hG hp) hp2), updD_ne (neD hG hp)]
  exact hG
/-! the calls drawn -/
theorem plan_nats {p : Pl.Plan} (h : p.Ok) : ∃ ns, p.d = natsD ns ∧ PFit ns := by
  obtain ⟨b, l, e, m⟩ := p
  obtain ⟨h1, h2, h3, h4, h5, h6, h7, h8⟩ := h
  dsimp only at *
  refine ⟨[b.toNat, l.toNat, e.toNat, m.toNat], ?_, _, _, _, _, rfl, by omega, by omega, by omega, by omega⟩
  unfold Pl.Plan.d Pl.Plan.ds natsD
  simp only [List.map_cons, List.map_nil]
  rw [Int.toNat_of_nonneg (by omega), Int.toNat_of_nonneg (by omega), Int.toNat_of_nonneg (by omega), Int.toNat_of_nonneg (by omega)]
open PySem.W (AllAlike Sortable) in
theorem sort_intsR {l : List Int} {G : DH} {R : DK} (hl : l.length ≤ 100000) (q : R (.rol ((sortI l).map .int)) G) : dSortedF [.rol (l.map .int)] G R := by
  refine ⟨l.map .int, l.map PyData.int, rfl, rdd_map fun x _ => .int x, ?_, ?_, fun t ht => ?_, by rw [List.length_map]; exact sz_small hl, ?_⟩
  · exact AllAlike.of fun x y => encI_alike x y
  · exact Sortable.others fun b => ⟨(fun z => by cases z), (fun xs z => by cases z)⟩
  · obtain ⟨x, _, rfl⟩ := List.mem_map.mp ht
    simp [PyData.depth]
  · rw [sortD_map]
    have e : l.mergeSort (PySem.W.dataLe false PyData.int) = sortI l := by
      unfold sortI
      rw [PySem.W.dataLe_int]
    rw [e]
    exact q
theorem sorted_fit {ms : List Nat} (hp : ms.Perm (List.range 8)) {r : Nat} (hr : r < 7) : ∃ gs, (sortI ((ms.take r).map natI)).map D.int = gs.map natD ∧ GFit gs := by
  have hnd : ((ms.take r).map natI).Nodup := by
    have h1 : ms.Nodup := hp.nodup_iff.mpr List.nodup_range
    have h2 : (ms.take r).Nodup := h1.sublist (List.take_sublist r ms)
    exact List.pairwise_map.mpr (h2.imp fun h e => h (by unfold natI at e; omega))
  have hlt := Hd.sortI_lt hnd
  have hperm := Hd.sortI_perm ((ms.take r).map natI)
  refine ⟨(sortI ((ms.take r).map natI)).map Int.toNat, ?_, ?_, ?_, ?_⟩
  · rw [List.map_map]
    refine List.map_congr_left fun i hi => ?_
    obtain ⟨n, -, rfl⟩ := List.mem_map.mp (hperm.mem_iff.mp hi)
    rfl
  · refine List.pairwise_map.mpr ?_
    refine hlt.imp_of_mem fun {x y} hx hy h => ?_
    obtain ⟨n, -, rfl⟩ := List.mem_map.mp (hperm.mem_iff.mp hx)
    obtain ⟨m, -, rfl⟩ := List.mem_map.mp (hperm.mem_iff.mp hy)
    unfold natI at h ⊢
    omega
  · rw [List.length_map, hperm.length_eq, List.length_map, List.length_take]
    omega
  · intro x hx
    obtain ⟨i, hi, rfl⟩ := List.mem_map.mp hx
    obtain ⟨n, hn, rfl⟩ := List.mem_map.mp (hperm.mem_iff.mp hi)
    have : n ∈ List.range 8 := hp.mem_iff.mp (List.mem_of_mem_take hn)
    have := List.mem_range.mp this
    show (natI n).toNat < 8
    unfold natI
    omega
theorem call_step (hG : G a = some (.lst l)) (dl : Draws l) (hf : G f = some (.lst (cs.map callD))) (hl : cs.length ≤ 100)
    (q : ∀ c G' l', PFit c.1 → GFit c.2 → G' a = some (.lst l') → Draws l' → G' f = some (.lst ((cs ++ [c]).map callD)) → Dn.nx [o0, some (.ref a), o2, some (.ref f), o4, o5, o6, o7, o8, o9, o10, o11, o12, o13, o14, o15, o16, o17, o18] G') :
    lwCallB Dn [o0, some (.ref a), o2, some (.ref f), o4, o5, o6, o7, o8, o9, o10, o11, o12, o13, o14, o15, o16, o17, o18] G := by
  have hfa : f ≠ a := fun e => by
    subst e
    rw [hf] at hG
    injection hG with hG
    injection hG with hG
    obtain ⟨x, y, zs, e⟩ := dl
    rw [e] at hG
    cases cs with
    | nil => cases hG
    | cons c cs => cases hG
  unfold lwCallB dListRg dSl oNo oSome
  walk_at "rd"
  refine ⟨ty_lst hf, ?_⟩
  refine ⟨a, l, rfl, hG, dl, fun p l pok dl => ?_⟩
  obtain ⟨ns, ep, hp⟩ := plan_nats pok
  rw [ep]
  refine ⟨by decide, ?_⟩
  rw [rangeD_map]
  refine Lw.use_mixed (f := natD) updD_same dl (by decide) fun ms l hperm dl => ?_
  refine off_at updD_same dl (by decide) (by decide) fun r l r0 r1 dl => ?_
  obtain ⟨n, rfl⟩ := Int.eq_ofNat_of_zero_le r0
  have hlen : ms.length = 8 := hperm.length_eq.trans (by decide)
  walk_at "rd"
  rw [vcut_to (by rw [List.length_map]; omega), ← List.map_take, natsI]
  refine sort_intsR (by rw [List.length_map, List.length_take]; omega) ?_
  obtain ⟨gs, eg, hg⟩ := sorted_fit hperm (r := n) (by omega)
  rw [eg, vtup_rol]
  refine app_at (l := cs.map callD) (by rw [updD_ne hfa, updD_ne hfa, updD_ne hfa]; exact hf) (by rw [List.length_map, sizeLine_eq]; omega) ?_
  refine q (ns, gs) _ l hp hg ?_ dl ?_
  · rw [updD_ne (Ne.symm hfa)]; exact updD_same
  · rw [updD_same, List.map_append]; rfl
theorem line_step2 {p gs : List Nat} {acc : List D} (hp : PFit p) (hg : GFit gs) (hf : G g = some (.lst acc)) (hacc : acc.length < sizeLine)
    (q : ∀ o8, Dn.nx [o0, o2, o3, o4, o5, some (.ref g), some (natsD p), some (natsD gs), o8, o9, o10, o11, o12, o13, o14, o15, o16, o17, o18] (updD G g (.lst (acc ++ [lineD (p, gs)])))) :
    lwLineB Dn [o0, o2, o3, o4, o5, some (.ref g), some (natsD p), some (natsD gs), o8, o9, o10, o11, o12, o13, o14, o15, o16, o17, o18] G := by
  rw [natsD_eq, natsD_eq] at *
  unfold lwLineB
  walk_at "rd"
  have fin : ∀ w : List Nat, w = glast gs → lwLineE Dn
      [o0, o2, o3, o4, o5, some (.ref g), some (.tup (p.map natD)), some (.tup (gs.map natD)), some (.str (S w)), o9, o10, o11, o12, o13, o14, o15, o16, o17, o18] G := fun w hw => by
    subst hw
    unfold lwLineE
    walk_at "rd"
    refine ⟨ty_lst hf, rfl, ?_⟩
    unfold dLcF
    rw [vsq_tup rfl]
    refine strs_at hp.le (by rw [hp.len]; decide) (by show 10 < 19; decide) ?_
    walk_at "rd"
    refine ⟨by rw [List.length_map, List.length_map, hp.len, sizeLine_eq]; simp, ?_⟩
    rw [show ((p.map numL).map strS ++ [D.str (S (glast gs))] : List D) = (p.map numL ++ [glast gs]).map strS by rw [List.map_append]; rfl, s_space]
    exact vjoin (by have := words_sum hp hg; omega) (app_at hf hacc (q _))
  rw [natsI]
  refine vne_tup (b := []) ?_
  rw [natI_nil, ← natsI]
  walk_at "rd"
  by_cases h0 : gs = []
  · rw [decide_eq_true h0, if_neg (by decide)]
    rw [S_dash]
    exact fin [45] (by rw [h0]; rfl)
  · rw [decide_eq_false h0, if_pos (by decide)]
    refine ⟨rfl, ?_⟩
    unfold dLcF
    rw [vsq_tup rfl, s_comma]
    refine strs_at hg.le (by have := hg.2.1; omega) (by show 9 < 19; decide) ?_
    refine vjoin (by have := nums_sum hg.le; have := hg.2.1; omega) ?_
    exact fin _ (by unfold glast; rw [if_neg h0])
end
end K17
/-! ### k17: the law, walked -/
namespace K17
open PySem PySem.Spec PyProof.Rows L2 Cc TL
open SX (S)
section
variable {CH CP CT a f g : Addr} {okR : Str → Addr → Option Int → Prop} {Dn : DEnds} {G : DH} {l : List D} {cs : List (List Nat × List Nat)} {o0 o2 o3 o4 o5 o6 o7 o8 o9 o10 o11 o12 o13 o14 o15 o16 o17 o18 : Option D}
theorem delD_ne' {G : DH} {p b : Addr} {c : C} (h : G b = some c) (n : b ≠ p) : delD G p b = some c := by rw [delD_ne n]; exact h
theorem draws_ne {l : List D} {b : Addr} (hG : G a = some (.lst l)) (dl : Draws l) (hf : G b = some (.lst (cs.map callD))) : b ≠ a := fun e => by
  subst e
  rw [hf] at hG
  injection hG with hG
  injection hG with hG
  obtain ⟨x, y, zs, e⟩ := dl
  rw [e] at hG
  cases cs with
  | nil => cases hG
  | cons c cs => cases hG
theorem turn_walk (okP : okR "plan" CP none) (okH : okR "hand" CH none) (hG : G a = some (.lst l)) (dl : Draws l)
    (q : ∀ o3 o4 o5 o6 o7 o8 o9 o10 o11 o12 o13 o14 o15 o16 o17 o18 G' l', G' a = some (.lst l') → Draws l' → Dn.nx [o0, some (.ref a), o2, o3, o4, o5, o6, o7, o8, o9, o10, o11, o12, o13, o14, o15, o16, o17, o18] G') :
    lwTurnB CH CP CT okR Dn [o0, some (.ref a), o2, o3, o4, o5, o6, o7, o8, o9, o10, o11, o12, o13, o14, o15, o16, o17, o18] G := by
  unfold lwTurnB
  walk_at "rd"
  intro f hf
  have hfa : f ≠ a := Ne.symm (neD hG hf)
  unfold sFor iRange1
  walk_at "rd"
  refine off_at (by rw [updD_ne (Ne.symm hfa)]; exact hG) dl (by decide) (by decide) fun r l r0 r1 dl => ?_
  refine menuD r0 r1 fun x hx => ?_
  have hx : ∃ m : Int, x = .int m ∧ 0 < m ∧ m ≤ 31 := by
    simp only [List.mem_cons, List.not_mem_nil, or_false] at hx
    rcases hx with rfl | rfl | rfl | rfl <;> exact ⟨_, rfl, by decide, by decide⟩
  obtain ⟨m, rfl, m0, m1⟩ := hx
  refine off_at updD_same dl m0 (by omega) fun n l n0 n1 dl => ?_
  walk_at "rd"
  refine ⟨⟨by omega, by omega⟩, ?_⟩
  rw [rangeD_map]
  refine goFor_map (f := fun i : Nat => D.int (i : Int)) (fun xs δ G' => ∃ cs o4, δ = [o0, some (.ref a), o2, some (.ref f), o4, o5, o6, o7, o8, o9, o10, o11, o12, o13, o14, o15, o16, o17, o18] ∧ cs.length + xs.length = n.toNat ∧ (∀ c ∈ cs, PFit c.1 ∧ GFit c.2) ∧ G' f = some (.lst (cs.map callD)) ∧ ∃ l, G' a = some (.lst l) ∧ Draws l)
    (fun _ _ _ _ => trivial) (fun δ G' ⟨cs, o4, eδ, hn, hfit, hf', l, hG, dl⟩ => ?_) (fun x xs δ G' N ⟨cs, o4, eδ, hn, hfit, hf', l, hG, dl⟩ hN => ?_) _ _ _ ⟨[], _, rfl, by rw [List.length_range]; simp, by simp, by rw [updD_ne hfa, updD_ne hfa]; exact updD_same, l, updD_same, dl⟩
  · subst eδ
    have hl : cs.length ≤ 31 := by simp at hn; omega
    walk_at "rd"
    intro g hg
    have hga : g ≠ a := Ne.symm (neD hG hg)
    have hgf : g ≠ f := Ne.symm (neD hf' hg)
    refine sFz_lst (p := f) rfl (by rw [updD_ne (Ne.symm hgf)]; exact hf') ?_
    have hG2 : delD (updD G' g (.lst [])) f a = some (.lst l) := delD_ne' (by rw [updD_ne (Ne.symm hga)]; exact hG) (Ne.symm hfa)
    have hg2 : delD (updD G' g (.lst [])) f g = some (.lst []) := delD_ne' updD_same hgf
    generalize delD (updD G' g (.lst [])) f = G2 at hG2 hg2 ⊢
    unfold iSq
    walk_at "rd"
    refine goFor_map (f := callD) (fun xs δ G' => ∃ pre o6 o7 o8, pre ++ xs = cs ∧ δ = [o0, some (.ref a), o2, some (.rol (cs.map callD)), o4, some (.ref g), o6, o7, o8, o9, o10, o11, o12, o13, o14, o15, o16, o17, o18] ∧ G' g = some (.lst (pre.map lineD)) ∧ ∃ l, G' a = some (.lst l) ∧ Draws l)
      (fun _ _ _ _ => trivial) (fun δ G' ⟨pre, o6, o7, o8, ep, eδ, hg, l, hG, dl⟩ => ?_) (fun c xs δ G' N ⟨pre, o6, o7, o8, ep, eδ, hg, l, hG, dl⟩ hN => ?_) _ _ _ ⟨[], _, _, _, rfl, rfl, hg2, l, hG2, dl⟩
    · subst eδ
      rw [List.append_nil] at ep
      subst ep
      dsimp only
      refine sFz_lst (p := g) rfl hg ?_
      have hG3 : delD G' g a = some (.lst l) := delD_ne' hG (Ne.symm hga)
      generalize delD G' g = G3 at hG3 ⊢
      walk_at "rd"
      refine ⟨rfl, ?_⟩
      rw [s_line, lines_strS]
      refine vjoin (by have := lines_sum hfit; omega) ?_
      walk_at "rd"
      exact t6 okP okH hfit hl hG3 dl fun o13 o14 o15 o16 o17 o18 G' l' h1 h2 => q _ _ _ _ _ _ _ _ _ _ _ _ _ _ _ _ _ _ h1 h2
    · subst eδ
      have hc := hfit c (by rw [← ep]; simp)
      unfold callD
      walk_at "rd"
      have hpre : pre.length ≤ 31 := by
        have := congrArg List.length ep
        rw [List.length_append] at this
        omega
      refine line_step2 hc.1 hc.2 hg (by rw [List.length_map, sizeLine_eq]; omega) fun o8 => ?_
      refine hN _ _ ⟨pre ++ [c], _, _, _, by rw [List.append_assoc]; exact ep, rfl, ?_, l, ?_, dl⟩
      · rw [updD_same, List.map_append]; rfl
      · rw [updD_ne (Ne.symm hga)]; exact hG
  · subst eδ
    rw [List.length_cons] at hn
    walk_at "rd"
    refine call_step hG dl hf' (by omega) fun c G3 l' h1 h2 h3 dl' h4 => ?_
    refine hN _ _ ⟨cs ++ [c], _, rfl, by rw [List.length_append, List.length_singleton]; omega, fun d hd => ?_, h4, l', h3, dl'⟩
    rcases List.mem_append.mp hd with hd | hd
    · exact hfit d hd
    · rw [List.mem_singleton.mp hd]; exact ⟨h1, h2⟩
end
theorem line_empty : lineOf [] = none := by
  cases e : lineOf [] with
  | none => rfl
  | some c =>
    have := lineOf_len e
    rw [spl_nil] at this
    cases this
theorem pure_law (CH CP CT : Addr) (okR : Str → Addr → Option Int → Prop) (okP : okR "plan" CP none) (okH : okR "hand" CH none) (okT : ∀ n, okR "text" CT (some n)) (ds : List D) (G : DH) (R : DK) (EX : DX) (h : sdLaw ds G R EX) : b_law CH CP CT okR (endsD (frg R) EX) (startD N_law ds) G := by
  obtain ⟨x, ns, rfl, hx, hn, q⟩ := h
  show b_law CH CP CT okR (endsD (frg R) EX) [some x, none, none, none, none, none, none, none, none, none, none, none, none, none, none, none, none, none, none] G
  unfold b_law
  walk_at "rd"
  refine ⟨x, 0, ns, rfl, hx, by omega, fun a l ha dl _ => ?_⟩
  unfold sFor iRange1
  walk_at "rd"
  refine ⟨by decide, ?_⟩
  rw [rangeD_map]
  refine goFor_map (f := fun i : Nat => D.int (i : Int)) (fun xs δ G' => ∃ o2 o3 o4 o5 o6 o7 o8 o9 o10 o11 o12 o13 o14 o15 o16 o17 o18 l, δ = [some x, some (.ref a), o2, o3, o4, o5, o6, o7, o8, o9, o10, o11, o12, o13, o14, o15, o16, o17, o18] ∧ G' a = some (.lst l) ∧ Draws l)
    (fun _ _ _ _ => trivial) (fun δ G' ⟨o2, o3, o4, o5, o6, o7, o8, o9, o10, o11, o12, o13, o14, o15, o16, o17, o18, l, eδ, hG, dl⟩ => ?_) (fun i xs δ G' N ⟨o2, o3, o4, o5, o6, o7, o8, o9, o10, o11, o12, o13, o14, o15, o16, o17, o18, l, eδ, hG, dl⟩ hN => ?_) _ _ _ ⟨_, _, _, _, _, _, _, _, _, _, _, _, _, _, _, _, _, l, rfl, updD_same, dl⟩
  · subst eδ
    unfold lwE
    walk_at "rd"
    rw [show (Str.ofString "" : Str) = S [] by decide +kernel, s_line]
    have h0 : linesOf [] = [] := rfl
    refine ⟨[], rfl, by decide, fun cs' hc p hp => ?_, fun l1 rs l cs' e1 e2 e3 => ?_⟩
    · have : cs' = [] := by
        rw [h0] at hc
        exact List.map_eq_nil_iff.mp hc.symm
      subst this
      refine calls_alike (cs := []) (by simp) (by decide) updD_same ?_
      walk_at "rd"
      refine ⟨"text", CT, some 0, .int 0, rfl, rfl, okT _, fun n e => by injection e with e; rw [e], ?_⟩
      walk_at "rd"
      have h1 : linesOf [10] = [] ++ [] :: [[]] := by decide +kernel
      refine ⟨[10], rfl, by decide, fun cs' hc => absurd line_empty (no_none (by rw [h1]; simp) hc), fun l1 rs l cs' e1 e2 e3 G2 d s2 hd => ⟨rfl, ?_, fun G3 s3 => frg_of (q _)⟩⟩
      have hlen := first_none (f := lineOf) (c1 := []) (h1.symm.trans e1) rfl e2 line_empty e3
      rw [← hlen] at hd
      exact hd
    · rw [h0] at e1
      cases l1 <;> cases e1
  · subst eδ
    walk_at "rd"
    exact turn_walk okP okH hG dl fun o3 o4 o5 o6 o7 o8 o9 o10 o11 o12 o13 o14 o15 o16 o17 o18 G' l' h1 h2 => hN _ _ ⟨_, _, _, _, _, _, _, _, _, _, _, _, _, _, _, _, _, l', rfl, h1, h2⟩
end K17
/-! ### the end: methods, classes, errors -/
namespace Cc
open PySem PySem.Spec PyProof.Rows L2
section
variable {P : Program} {w : World} {K : PySem.W.Frag} {T : List (Addr × Str)} {cv : Value → Prop} {mg : Str → Option Value} {base h : Heap} {N ps : List Str} {x m : Str} {k : Nat} {sb : DSt} {sd : SpD} {fa : List He.Fa} {fn : List He.DefD} {d : He.DefD}
theorem mkMt (X : K.In h) (G : h.Ns mainGlobals mg) (c : He.SaysD fa fn K) (hd : d ∈ fn) (hx : d.at_ = (x, some m)) (h1 : d.dfl = []) (h2 : d.kwd = []) (hg : He.Fa.meth x m ∈ fa) (S : FnScope N ps d.scope) (hcv : cv (.ref (He.codeOf K (x, some m))))
    (len : ∀ ds G R EX, sd ds G R EX → ds.length = ps.length) (B : BodyD P w K T cv mg base N d.qual d.scope d.body k sb) (hp : ∀ ds G R EX, sd ds G R EX → sb (endsD (frg R) EX) (startD N ds) G)
    (hb : ∀ (kV doc pm : Value) (an : Option Addr) (cdv ct : Value) (us : List Value), us.length = ps.length → bindArgs (PySem.W.fnOf d.name d.qual d.params d.body d.scope .none kV doc pm an cdv ct) ⟨us, []⟩ = pure (ps.zip us)) :
    Mt P w (K, T) mg base (He.ga K x) m (k + 1) ps sd := by
  obtain ⟨fd, F, e⟩ := defAt c hd h1 h2
  rw [hx] at F e
  exact ⟨_, fd, okF F S (by rw [e]; exact hcv) len B hp, He.meth_ok (c.facts hg), F.bindsN hb⟩
theorem mkMt0 (X : K.In h) (G : h.Ns mainGlobals mg) (c : He.SaysD fa fn K) (hd : d ∈ fn) (hx : d.at_ = (x, some m)) (h1 : d.dfl = []) (h2 : d.kwd = []) (hg : He.Fa.meth x m ∈ fa) (no : ∀ ds G R EX, ¬ sd ds G R EX)
    (hb : ∀ (kV doc pm : Value) (an : Option Addr) (cdv ct : Value) (us : List Value), us.length = ps.length → bindArgs (PySem.W.fnOf d.name d.qual d.params d.body d.scope .none kV doc pm an cdv ct) ⟨us, []⟩ = pure (ps.zip us)) :
    Mt P w (K, T) mg base (He.ga K x) m k ps sd := by
  obtain ⟨fd, F, e⟩ := defAt c hd h1 h2
  rw [hx] at F e
  exact ⟨_, fd, ⟨fun vs H Q E ⟨ds, G, R, EX, _, _, h, _⟩ => (no _ _ _ _ h).elim, fun A outer s H args us vs Q E _ _ _ _ ⟨ds, G, R, EX, _, _, h, _⟩ => (no _ _ _ _ h).elim⟩, He.meth_ok (c.facts hg), F.bindsN hb⟩
theorem mkMr (X : K.In h) (G : h.Ns mainGlobals mg) (c : He.SaysD fa fn K) (hd : d ∈ fn) (hx : d.at_ = (x, some ("__init__" : Str))) (h1 : d.dfl = []) (h2 : d.kwd = []) (hg : He.Fa.mkr x ∈ fa) (hgl : He.Fa.glo x ∈ fa) (S : FnScope N ps d.scope) (hcv : cv (.ref (He.codeOf K (x, some ("__init__" : Str)))))
    (len : ∀ ds G R EX, sd ds G R EX → ds.length = ps.length) (B : BodyD P w K T cv mg base N d.qual d.scope d.body k sb) (hp : ∀ ds G R EX, sd ds G R EX → sb (endsD (frg R) EX) (startD N ds) G)
    (hb : ∀ (kV doc pm : Value) (an : Option Addr) (cdv ct : Value) (us : List Value), us.length = ps.length → bindArgs (PySem.W.fnOf d.name d.qual d.params d.body d.scope .none kV doc pm an cdv ct) ⟨us, []⟩ = pure (ps.zip us)) :
    Mr P w (K, T) mg base x (He.ga K x) (k + 1) ps sd := by
  obtain ⟨fd, F, e⟩ := defAt c hd h1 h2
  rw [hx] at F e
  exact ⟨_, fd, okF F S (by rw [e]; exact hcv) len B hp, He.mkr_ok (c.facts hg), He.glo_ok X G (c.facts hgl), F.bindsN hb⟩
theorem glo_ref (X : K.In h) (G : h.Ns mainGlobals mg) {x : Str} (c : (He.Fa.glo x).ok K = true) : GloC K mg x (.ref (He.ga K x)) :=
  ⟨.ref _, _, He.glo_ok X G c, rfl, fun _ _ => .ref _⟩
theorem err_at (X : K.In h) (G : h.Ns mainGlobals mg) {x : Str} (c : (He.Fa.exc x).ok K = true) (c2 : (He.Fa.glo x).ok K = true) : ErrC K mg x (He.ga K x) := by
  obtain ⟨h1, h2, h3, h4⟩ := He.exc_ok c
  exact ⟨h1, He.glo_ok X G c2, h2, h3, h4⟩
theorem ref_at (X : K.In h) (G : h.Ns mainGlobals mg) (c : He.SaysD fa fn K) (hd : d ∈ fn) (hx : d.at_ = (x, none)) (h1 : d.dfl = []) (h2 : d.kwd = []) (hg : He.Fa.glo x ∈ fa) : ∃ (g : Addr) (fd : FuncData), FunD K d.name d.qual d.params d.body d.scope [] [] g fd ∧ mg x = some (.ref g) := by
  obtain ⟨fd, F, e⟩ := defAt c hd h1 h2
  rw [hx] at F
  exact ⟨_, fd, F, He.glo_ok X G (c.facts hg)⟩
end
theorem funD_uniq {K : PySem.W.Frag} {x q x2 q2 : Str} {p p2 : Arguments} {b b2 : List Stmt} {s s2 : Scope} {d d2 : List V} {k k2 : List (Str × V)} {f : Addr} {fd fd2 : FuncData} (F : FunD K x q p b s d k f fd) (F2 : FunD K x2 q2 p2 b2 s2 d2 k2 f fd2) : fd = fd2 := by
  obtain ⟨oc, od, _, _, _, _, _, _, _, osl, _, lk, _, _, _⟩ := F.ex
  obtain ⟨oc', od', _, _, _, _, _, _, _, osl', _, lk', _, _, _⟩ := F2.ex
  rw [lk] at lk'
  injection lk' with lk'
  injection lk' with _ _ e _
  injection e
theorem hu_of {TT : List (Addr × Str)} (nd : (TT.map (·.1)).Nodup) {P : Addr} {s : Str} (h : (P, s) ∈ TT) : ∀ q ∈ TT, q.1 = P → q.2 = s := by
  induction TT with
  | nil => cases h
  | cons t ts ih =>
    obtain ⟨n1, n2⟩ := List.nodup_cons.mp nd
    intro q hq e
    rcases List.mem_cons.mp h with h | h
    · rcases List.mem_cons.mp hq with hq | hq
      · rw [hq, ← h]
      · exact absurd (List.mem_map.mpr ⟨q, hq, by rw [e, ← h]⟩) n1
    · rcases List.mem_cons.mp hq with hq | hq
      · exact absurd (List.mem_map.mpr ⟨_, h, by rw [← hq]; exact e.symm⟩) n1
      · exact ih n2 h q hq e
end Cc
/-! ### k17: BadText is raised; what the head must tell of it -/
namespace K17
open PySem PySem.Spec PyProof.Rows L2 Cc
structure RaisesT (P : Program) (w : World) (K : PySem.W.Frag) (mg : Str → Option Value) (base : Heap) (C : Addr) : Prop where
  ex : ∃ (f : Addr) (fd : FuncData), OexC K C ∧ PySem.W.findIn K (.ref C) "__init__" = some (some (.ref f)) ∧ PySem.W.typeIn K (.ref f) = some (.type "function") ∧ FnOk P w K mg base (L2N.CX P w) 1 f fd ["self", "row"] (spInit C "row") ∧ Binds K fd ["self", "row"] [] ∧ mg "BadText" = some (.ref C)
section
variable {P : Program} {w : World} {K : PySem.W.Frag} {mg : Str → Option Value} {base h : Heap} {fa : List He.Fa} {fn : List He.DefD}
theorem raises_at (X : K.In h) (G : h.Ns mainGlobals mg) (c : He.SaysD fa fn K) (hd : d_bt ∈ fn) (oe : oexB K (He.ga K "BadText") = true) (hb : baseB K (He.ga K "CallError") = true) (hr : He.Fa.noat "BadText" "row" ∈ fa) (hE : He.Fa.glo "CallError" ∈ fa) (hT : He.Fa.glo "BadText" ∈ fa) (hm : He.Fa.meth "BadText" "__init__" ∈ fa) :
    RaisesT P w K mg base (He.ga K "BadText") := by
  obtain ⟨fd, F, -⟩ := defAt c hd rfl rfl
  have m := He.meth_ok (c.facts hm)
  obtain ⟨b1, b2, b3⟩ := baseB_ok hb
  have T := oexB_ok oe
  have F : FunD K "__init__" "BadText.__init__" (defArgs s_bt) (defBody s_bt) (defScope s_bt) [] [] (He.ma K (He.ga K "BadText") "__init__") fd := F
  exact ⟨_, fd, T, m.at_, beq_iff_eq.mp m.fn, init_bt F T (He.noat_ok (c.facts hr)) (He.glo_ok X G (c.facts hE)) b1 b2 b3, F.bindsN (fun _ _ _ _ _ _ us hl => match us, hl with | [_, _], _ => rfl), He.glo_ok X G (c.facts hT)⟩
end
/-- the def that asks for refusals -/
theorem okR_of {K : PySem.W.Frag} {mg : Str → Option Value} (Tx : TxR K mg) {w : Str} {C : Addr} (h : PySem.W.exmOne K (.ref C) (.ref Tx.aE) = some true) (x : ExcC K C) (k : Kit K C Tx.aH Tx.aP Tx.aW Tx.aM Tx.aL Tx.aT w) : OkR Tx w C none := ⟨h, x, .inl ⟨rfl, k⟩⟩
theorem okR_txt {K : PySem.W.Frag} {mg : Str → Option Value} (Tx : TxR K mg) {C : Addr} (h : PySem.W.exmOne K (.ref C) (.ref Tx.aE) = some true) (x : ExcC K C) (k : KitT K C Tx.aH Tx.aP Tx.aW Tx.aM Tx.aL Tx.aT "text") (f : XfC K C) (r : PySem.W.findIn K (.ref C) "row" = some none) (n : Int) : OkR Tx "text" C (some n) := ⟨h, x, .inr ⟨⟨n, rfl⟩, k, f, r⟩⟩
end K17
/-! ### k17: the defs keep their readings -/
namespace K17
open PySem PySem.Spec PyProof.Rows L2 Cc Pl Lw
structure Txt (K : PySem.W.Frag) (mg : Str → Option Value) where
  a_BadHand : Addr
  a_BadLetter : Addr
  a_BadPlan : Addr
  a_BadText : Addr
  a_BadWord : Addr
  a_CallError : Addr
  a_NoMeeting : Addr
  e_BadHand : ErrC K mg "BadHand" a_BadHand
  e_BadPlan : ErrC K mg "BadPlan" a_BadPlan
  c_FIGURES : GloC K mg "FIGURES" (.str "0123456789")
  c_HANDS : GloC K mg "HANDS" (.int 8)
  c_MOST_BEGIN : GloC K mg "MOST_BEGIN" (.int 999)
  c_MOST_EVERY : GloC K mg "MOST_EVERY" (.int 100)
  c_MOST_GUESTS : GloC K mg "MOST_GUESTS" (.int 6)
  c_MOST_LONG : GloC K mg "MOST_LONG" (.int 50)
  c_MOST_MANY : GloC K mg "MOST_MANY" (.int 12)
  c_NONE : GloC K mg "NONE" (.str "-")
  f_abs : mg "abs" = none
  f_all : mg "all" = none
  f_bool : mg "bool" = none
  f_enumerate : mg "enumerate" = none
  f_int : mg "int" = none
  f_isinstance : mg "isinstance" = none
  f_len : mg "len" = none
  f_list : mg "list" = none
  f_min : mg "min" = none
  f_range : mg "range" = none
  f_set : mg "set" = none
  f_sorted : mg "sorted" = none
  f_str : mg "str" = none
  f_tuple : mg "tuple" = none
  r_E : mg "CallError" = some (.ref a_CallError)
  r_BadHand : GloC K mg "BadHand" (.ref a_BadHand)
  r_BadPlan : GloC K mg "BadPlan" (.ref a_BadPlan)
  r_BadWord : GloC K mg "BadWord" (.ref a_BadWord)
  r_NoMeeting : GloC K mg "NoMeeting" (.ref a_NoMeeting)
  r_BadLetter : GloC K mg "BadLetter" (.ref a_BadLetter)
  r_BadText : GloC K mg "BadText" (.ref a_BadText)
  f_ValueError : mg "ValueError" = none
  x_hand : ExcC K a_BadHand
  k_hand : Kit K a_BadHand a_BadHand a_BadPlan a_BadWord a_NoMeeting a_BadLetter a_BadText "hand"
  m_hand : PySem.W.exmOne K (.ref a_BadHand) (.ref a_CallError) = some true
  x_plan : ExcC K a_BadPlan
  k_plan : Kit K a_BadPlan a_BadHand a_BadPlan a_BadWord a_NoMeeting a_BadLetter a_BadText "plan"
  m_plan : PySem.W.exmOne K (.ref a_BadPlan) (.ref a_CallError) = some true
  x_text : ExcC K a_BadText
  k_text : KitT K a_BadText a_BadHand a_BadPlan a_BadWord a_NoMeeting a_BadLetter a_BadText "text"
  m_text : PySem.W.exmOne K (.ref a_BadText) (.ref a_CallError) = some true
  xf_text : XfC K a_BadText
  row_text : PySem.W.findIn K (.ref a_BadText) "row" = some none
abbrev Txt.r {K : PySem.W.Frag} {mg : Str → Option Value} (Tx : Txt K mg) : TxR K mg := ⟨Tx.a_CallError, Tx.a_BadHand, Tx.a_BadPlan, Tx.a_BadWord, Tx.a_NoMeeting, Tx.a_BadLetter, Tx.a_BadText, Tx.r_E, Tx.r_BadHand, Tx.r_BadPlan, Tx.r_BadWord, Tx.r_NoMeeting, Tx.r_BadLetter, Tx.r_BadText, Tx.f_isinstance, Tx.f_ValueError⟩
theorem ref_G {X : Cx} {T : List (Addr × Str)} (Tx : Txt X.K X.mg) {g fa : Addr} {fda : FuncData} {cdg : Value} {k : Nat} {q : Str} (hu : X.A.units + 200 < cLine) (Fa : L2H.FnH X.prog X.w X.K X.mg X.base (L2N.CX X.prog X.w) 1 fa fda ["_law_found", "_law_due"] (upF (X.K, T) sdAlI)) (hma : X.mg "_law_alike" = some (.ref fa)) (hka : PySem.W.keepIn X.K (.ref fa) = true) (hba : Binds X.K fda ["_law_found", "_law_due"] []) :
    Given X N_ref ["_law_work", "_law_word", "_law_value"] "_law_refused" "_law_work" (defScope s_ref) g cdg (defBody s_ref) (k + 1) q (spRefG (X.K, T) (OkR Tx.r)) := given_refG Tx.r hu Fa hma hka hba
theorem Txt.okP {K : PySem.W.Frag} {mg : Str → Option Value} (Tx : Txt K mg) : OkR Tx.r "plan" Tx.a_BadPlan none := okR_of Tx.r Tx.m_plan Tx.x_plan Tx.k_plan
theorem Txt.okH {K : PySem.W.Frag} {mg : Str → Option Value} (Tx : Txt K mg) : OkR Tx.r "hand" Tx.a_BadHand none := okR_of Tx.r Tx.m_hand Tx.x_hand Tx.k_hand
theorem Txt.okT {K : PySem.W.Frag} {mg : Str → Option Value} (Tx : Txt K mg) (n : Int) : OkR Tx.r "text" Tx.a_BadText (some n) := okR_txt Tx.r Tx.m_text Tx.x_text Tx.k_text Tx.xf_text Tx.row_text n
theorem sc_is_between : FnScope N_is_between ["part", "low", "high"] (defScope s_is_between) := ⟨rfl, rfl, rfl, by decide +kernel, rfl, by decide +kernel, by decide +kernel⟩
theorem bd_is_between {P : Program} {w : World} {K : PySem.W.Frag} {TT : List (Addr × Str)} {cv : Value → Prop} {mg : Str → Option Value} {base : Heap} (Tx : Txt K mg) : BodyD P w K TT cv mg base N_is_between "is_between" (defScope s_is_between) (defBody s_is_between) 0 b_is_between := by
  intro f cdv A outer s H E hcv hr
  have nd : (N_is_between).Nodup := sc_is_between.nd
  exact (pdss_one (pds_ret (pd_and (pd_blt cd_isi Tx.f_isinstance (by decide +kernel) (pda_cons (pd_var 0 (pv 0)) (pda_cons (pd_ty Tx.f_int (by decide +kernel)) pda_nil))) (pd_and (pd_not (pd_blt cd_isi Tx.f_isinstance (by decide +kernel) (pda_cons (pd_var 0 (pv 0)) (pda_cons (pd_ty Tx.f_bool (by decide +kernel)) pda_nil)))) (pd_one (pd_cp2 od_le od_le (pd_var 1 (pv 1)) (pd_var 0 (pv 0)) (pd_var 2 (pv 2))))))))
theorem sc_is_plan : FnScope N_is_plan ["plan"] (defScope s_is_plan) := ⟨rfl, rfl, rfl, by decide +kernel, rfl, by decide +kernel, by decide +kernel⟩
theorem bd_is_plan {P : Program} {w : World} {K : PySem.W.Frag} {TT : List (Addr × Str)} {cv : Value → Prop} {mg : Str → Option Value} {base : Heap} (Tx : Txt K mg) (F_is_between : Fn P w (K, TT) mg base "is_between" 1 ["part", "low", "high"] Pl.sd_is_between) : BodyD P w K TT cv mg base N_is_plan "is_plan" (defScope s_is_plan) (defBody s_is_plan) 1 b_is_plan := by
  intro f cdv A outer s H E hcv hr
  have nd : (N_is_plan).Nodup := sc_is_plan.nd
  exact (pdss_cons (pds_if (PDW.pdt (pdw_or (pdt_not (pdt_val (pd_blt cd_isi Tx.f_isinstance (by decide +kernel) (pda_cons (pd_var 0 (pv 0)) (pda_cons (pd_ty Tx.f_tuple (by decide +kernel)) pda_nil))))) (pdw_or1 (pdt_cp (od_ne hr.units) (pd_blt cd_len Tx.f_len (by decide +kernel) (pda_cons (pd_var 0 (pv 0)) pda_nil)) pd_int)))) (pdss_one (pds_ret pd_bl)) pdss_nil)
  (pdss_cons (pds_asg (pd_var 0 (pv 0)) (pdg_tup rfl (pdgs_cons (pdg_name (i := 1) nd rfl (by first | exact Or.inl rfl | exact Or.inr rfl)) (pdgs_cons (pdg_name (i := 2) nd rfl (by first | exact Or.inl rfl | exact Or.inr rfl)) (pdgs_cons (pdg_name (i := 3) nd rfl (by first | exact Or.inl rfl | exact Or.inr rfl)) (pdgs_cons (pdg_name (i := 4) nd rfl (by first | exact Or.inl rfl | exact Or.inr rfl)) pdgs_nil))))))
  (pdss_cons (pds_asg (pd_and (pd_fn F_is_between hr psD (pda_cons (pd_var 1 (pv 1)) (pda_cons pd_int (pda_cons (pd_glob (by rfl) Tx.c_MOST_BEGIN) pda_nil)))) (pd_one (pd_fn F_is_between hr psD (pda_cons (pd_var 2 (pv 2)) (pda_cons pd_int (pda_cons (pd_glob (by rfl) Tx.c_MOST_LONG) pda_nil)))))) (pdg_name (i := 5) nd rfl (by first | exact Or.inl rfl | exact Or.inr rfl)))
  (pdss_one (pds_ret (pd_and (pd_var 5 (pv 5)) (pd_and (pd_fn F_is_between hr psD (pda_cons (pd_var 3 (pv 3)) (pda_cons pd_int (pda_cons (pd_glob (by rfl) Tx.c_MOST_EVERY) pda_nil)))) (pd_one (pd_fn F_is_between hr psD (pda_cons (pd_var 4 (pv 4)) (pda_cons pd_int (pda_cons (pd_glob (by rfl) Tx.c_MOST_MANY) pda_nil))))))))))))
theorem sc_need_plan : FnScope N_need_plan ["plan"] (defScope s_need_plan) := ⟨rfl, rfl, rfl, by decide +kernel, rfl, by decide +kernel, by decide +kernel⟩
theorem bd_need_plan {P : Program} {w : World} {K : PySem.W.Frag} {TT : List (Addr × Str)} {cv : Value → Prop} {mg : Str → Option Value} {base : Heap} (Tx : Txt K mg) (F_is_plan : Fn P w (K, TT) mg base "is_plan" 2 ["plan"] Pl.sd_is_plan) : BodyD P w K TT cv mg base N_need_plan "need_plan" (defScope s_need_plan) (defBody s_need_plan) 2 (b_need_plan Tx.a_BadPlan) := by
  intro f cdv A outer s H E hcv hr
  have nd : (N_need_plan).Nodup := sc_need_plan.nd
  exact (pdss_one (pds_if (pdt_not (pdt_val (pd_fn F_is_plan hr psD (pda_cons (pd_var 0 (pv 0)) pda_nil)))) (pdss_one (pds_raise Tx.e_BadPlan tkD)) pdss_nil))
theorem sc_need_hand : FnScope N_need_hand ["number"] (defScope s_need_hand) := ⟨rfl, rfl, rfl, by decide +kernel, rfl, by decide +kernel, by decide +kernel⟩
theorem bd_need_hand {P : Program} {w : World} {K : PySem.W.Frag} {TT : List (Addr × Str)} {cv : Value → Prop} {mg : Str → Option Value} {base : Heap} (Tx : Txt K mg) (F_is_between : Fn P w (K, TT) mg base "is_between" 1 ["part", "low", "high"] Pl.sd_is_between) : BodyD P w K TT cv mg base N_need_hand "need_hand" (defScope s_need_hand) (defBody s_need_hand) 1 (b_need_hand Tx.a_BadHand) := by
  intro f cdv A outer s H E hcv hr
  have nd : (N_need_hand).Nodup := sc_need_hand.nd
  exact (pdss_one (pds_if (pdt_not (pdt_val (pd_fn F_is_between hr psD (pda_cons (pd_var 0 (pv 0)) (pda_cons pd_int (pda_cons (pd_bin od_sub (pd_glob (by rfl) Tx.c_HANDS) pd_int) pda_nil)))))) (pdss_one (pds_raise Tx.e_BadHand tkD)) pdss_nil))
theorem sc_need_guests : FnScope N_need_guests ["guests"] (defScope s_need_guests) := ⟨rfl, rfl, rfl, by decide +kernel, rfl, by decide +kernel, by decide +kernel⟩
theorem bd_need_guests {P : Program} {w : World} {K : PySem.W.Frag} {TT : List (Addr × Str)} {cv : Value → Prop} {mg : Str → Option Value} {base : Heap} (Tx : Txt K mg) (F_need_hand : Fn P w (K, TT) mg base "need_hand" 2 ["number"] (sd_need_hand Tx.a_BadHand)) : BodyD P w K TT cv mg base N_need_guests "need_guests" (defScope s_need_guests) (defBody s_need_guests) 2 (b_need_guests Tx.a_BadHand) := by
  intro f cdv A outer s H E hcv hr
  have nd : (N_need_guests).Nodup := sc_need_guests.nd
  exact (pdss_cons (pds_if (PDW.pdt (pdw_or (pdt_not (pdt_val (pd_blt cd_isi Tx.f_isinstance (by decide +kernel) (pda_cons (pd_var 0 (pv 0)) (pda_cons (pd_ty Tx.f_tuple (by decide +kernel)) pda_nil))))) (pdw_or1 (pdt_cp od_gt (pd_blt cd_len Tx.f_len (by decide +kernel) (pda_cons (pd_var 0 (pv 0)) pda_nil)) (pd_glob (by rfl) Tx.c_MOST_GUESTS))))) (pdss_one (pds_raise Tx.e_BadHand tkD)) pdss_nil)
  (pdss_cons (pds_for poD rfl (pdi_seq (pd_var 0 (pv 0))) (pdg_name (i := 1) nd rfl (by first | exact Or.inl rfl | exact Or.inr rfl)) (pdss_one (pds_expr (pd_fn F_need_hand hr psD (pda_cons (pd_var 1 (pv 1)) pda_nil)))))
  (pdss_one (pds_if (pdt_cp (od_ne hr.units) (pd_btt cd_listF Tx.f_list (by decide +kernel) (pda_cons (pd_var 0 (pv 0)) pda_nil)) (pd_sortSetTu Tx.f_sorted Tx.f_set (pd_var 0 (pv 0)))) (pdss_one (pds_raise Tx.e_BadHand tkD)) pdss_nil))))
theorem sc_written : FnScope N_written ["calls"] (defScope s_written) := ⟨rfl, rfl, rfl, by decide +kernel, rfl, by decide +kernel, by decide +kernel⟩
theorem bd_written {P : Program} {w : World} {K : PySem.W.Frag} {TT : List (Addr × Str)} {cv : Value → Prop} {mg : Str → Option Value} {base : Heap} (Tx : Txt K mg) (F_need_guests : Fn P w (K, TT) mg base "need_guests" 3 ["guests"] (sd_need_guests Tx.a_BadHand)) (F_need_plan : Fn P w (K, TT) mg base "need_plan" 3 ["plan"] (Pl.sd_need_plan Tx.a_BadPlan)) : BodyD P w K TT cv mg base N_written "written" (defScope s_written) (defBody s_written) 3 (b_written Tx.a_BadHand Tx.a_BadPlan) := by
  intro f cdv A outer s H E hcv hr
  have nd : (N_written).Nodup := sc_written.nd
  exact (pdss_cons (pds_asg (pd_lst pda_nil) (pdg_name (i := 1) nd rfl (by first | exact Or.inl rfl | exact Or.inr rfl)))
  (pdss_cons (pds_for poD rfl (pdi_seq (pd_var 0 (pv 0))) (pdg_tup rfl (pdgs_cons (pdg_name (i := 2) nd rfl (by first | exact Or.inl rfl | exact Or.inr rfl)) (pdgs_cons (pdg_name (i := 3) nd rfl (by first | exact Or.inl rfl | exact Or.inr rfl)) pdgs_nil))) (pdss_cons (pds_expr (pd_fn F_need_plan hr psD (pda_cons (pd_var 2 (pv 2)) pda_nil)))
  (pdss_cons (pds_expr (pd_fn F_need_guests hr psD (pda_cons (pd_var 3 (pv 3)) pda_nil)))
  (pdss_cons (pds_setLcF (i := 4) (own := [("part", 5)]) rfl nd rfl rfl (sw_true rfl rfl rfl (by decide +kernel)) (pdi_seq (pd_var 2 (pv 2))) (blkOk_by (own := [("part", 5)]) (N := N_written) (sc := defScope s_written) (by decide +kernel)) (blk_name (i := 5) (by decide) (fun _ _ _ _ _ => pg_name (i := 5) nd rfl (by first | exact Or.inl rfl | exact Or.inr rfl)) (fun _ _ _ _ _ => pdts_nil) (fun _ _ _ _ _ => (pd_btt cd_strI Tx.f_str (by decide +kernel) (pda_cons (pd_var 5 (pv 5)) pda_nil)))))
  (pdss_one (pds_expr (pd_bm PySem.F.plainAttrs_list PySem.F.slot_list_append PySem.F.type_list_append md_append (pd_var 1 (pv 1)) (pda_cons (pd_bm PySem.F.plainAttrs_str PySem.F.slot_str_join PySem.F.type_str_join md_join pd_str (pda_cons (pd_bin od_addF (pd_var 4 (pv 4)) (pd_lstF (pda_cons (pd_if (pdt_cp (od_ne hr.units) (pd_var 3 (pv 3)) (pd_tup pda_nil)) (pd_bm PySem.F.plainAttrs_str PySem.F.slot_str_join PySem.F.type_str_join md_join pd_str (pda_cons (pd_lcF (own := [("hand", 6)]) rfl nd (pdi_seq (pd_var 3 (pv 3))) (blkOk_by (own := [("hand", 6)]) (N := N_written) (sc := defScope s_written) (by decide +kernel)) (blk_name (i := 6) (by decide) (fun _ _ _ _ _ => pg_name (i := 6) nd rfl (by first | exact Or.inl rfl | exact Or.inr rfl)) (fun _ _ _ _ _ => pdts_nil) (fun _ _ _ _ _ => (pd_btt cd_strI Tx.f_str (by decide +kernel) (pda_cons (pd_var 6 (pv 6)) pda_nil))))) pda_nil)) (pd_glob (by rfl) Tx.c_NONE)) pda_nil))) pda_nil)) pda_nil))))))))
  (pdss_one (pds_frz 1 (pds_ret (pd_bm PySem.F.plainAttrs_str PySem.F.slot_str_join PySem.F.type_str_join md_join pd_str (pda_cons (pd_var 1 (pv 1)) pda_nil)))))))
theorem sc_number_of : FnScope N_number_of ["word"] (defScope s_number_of) := ⟨rfl, rfl, rfl, by decide +kernel, rfl, by decide +kernel, by decide +kernel⟩
theorem bd_number_of {P : Program} {w : World} {K : PySem.W.Frag} {TT : List (Addr × Str)} {cv : Value → Prop} {mg : Str → Option Value} {base : Heap} (Tx : Txt K mg) : BodyD P w K TT cv mg base N_number_of "number_of" (defScope s_number_of) (defBody s_number_of) 0 (b_number_of) := by
  intro f cdv A outer s H E hcv hr
  have nd : (N_number_of).Nodup := sc_number_of.nd
  exact (pdss_cons (pds_if (PDW.pdt (pdw_or (pdt_not (pdt_cp2 od_le od_le pd_int (pd_blt cd_len Tx.f_len (by decide +kernel) (pda_cons (pd_var 0 (pv 0)) pda_nil)) pd_int)) (pdw_or1 (pdt_cp (od_neE hr.units) (pd_lcF (own := [("sign", 1)]) rfl nd (pdi_str (pd_var 0 (pv 0))) (blkOk_by (own := [("sign", 1)]) (N := N_number_of) (sc := defScope s_number_of) (by decide +kernel)) (blk_name (i := 1) (by decide) (fun _ _ _ _ _ => pg_name (i := 1) nd rfl (by first | exact Or.inl rfl | exact Or.inr rfl)) (fun _ _ _ _ _ => (pdts_one (pdt_cp (od_notIn (hu_of hr)) (pd_var 1 (pv 1)) (pd_glob (by rfl) Tx.c_FIGURES)))) (fun _ _ _ _ _ => (pd_var 1 (pv 1))))) (pd_lstF pda_nil))))) (pdss_one (pds_ret pd_non)) pdss_nil)
  (pdss_one (pds_ret (pd_if (PDW.pdt (pdw_or (pdt_cp (od_eq hr.units) (pd_var 0 (pv 0)) pd_str) (pdw_or1 (pdt_cp (od_ne hr.units) (pd_sub (ixd (hu_of hr)) (pd_var 0 (pv 0)) pd_int) pd_str)))) (pd_btt cd_intS Tx.f_int (by decide +kernel) (pda_cons (pd_var 0 (pv 0)) pda_nil)) pd_non))))
theorem sc_guests_of : FnScope N_guests_of ["word"] (defScope s_guests_of) := ⟨rfl, rfl, rfl, by decide +kernel, rfl, by decide +kernel, by decide +kernel⟩
theorem bd_guests_of {P : Program} {w : World} {K : PySem.W.Frag} {TT : List (Addr × Str)} {cv : Value → Prop} {mg : Str → Option Value} {base : Heap} (Tx : Txt K mg) (F_number_of : Fn P w (K, TT) mg base "number_of" 1 ["word"] sd_number_of) : BodyD P w K TT cv mg base N_guests_of "guests_of" (defScope s_guests_of) (defBody s_guests_of) 1 (b_guests_of) := by
  intro f cdv A outer s H E hcv hr
  have nd : (N_guests_of).Nodup := sc_guests_of.nd
  exact (pdss_cons (pds_if (pdt_cp (od_eq hr.units) (pd_var 0 (pv 0)) (pd_glob (by rfl) Tx.c_NONE)) (pdss_one (pds_ret (pd_tup pda_nil))) pdss_nil)
  (pdss_cons (pds_setLcF (i := 1) (own := [("part", 2)]) rfl nd rfl rfl (sw_true rfl rfl rfl (by decide +kernel)) (pdi_seq (pd_splitF (pd_var 0 (pv 0)) pd_str)) (blkOk_by (own := [("part", 2)]) (N := N_guests_of) (sc := defScope s_guests_of) (by decide +kernel)) (blk_name (i := 2) (by decide) (fun _ _ _ _ _ => pg_name (i := 2) nd rfl (by first | exact Or.inl rfl | exact Or.inr rfl)) (fun _ _ _ _ _ => pdts_nil) (fun _ _ _ _ _ => (pd_fn F_number_of hr passN (pda_cons (pd_var 2 (pv 2)) pda_nil)))))
  (pdss_cons (pds_if (PDW.pdt (pdw_or (pdt_cp (od_in (hu_of hr)) pd_non (pd_var 1 (pv 1))) (pdw_or (pdt_cp od_gt (pd_blt cd_len Tx.f_len (by decide +kernel) (pda_cons (pd_var 1 (pv 1)) pda_nil)) (pd_glob (by rfl) Tx.c_MOST_GUESTS)) (pdw_or1 (pdt_cp (od_ne hr.units) (pd_var 1 (pv 1)) (pd_sortSetL Tx.f_sorted Tx.f_set (pd_var 1 (pv 1)))))))) (pdss_one (pds_ret pd_non)) pdss_nil)
  (pdss_one (pds_ret (pd_if (pdt_cp od_lt (pd_sub (ixd (hu_of hr)) (pd_var 1 (pv 1)) (pd_neg pd_int)) (pd_glob (by rfl) Tx.c_HANDS)) (pd_btt cd_tup Tx.f_tuple (by decide +kernel) (pda_cons (pd_var 1 (pv 1)) pda_nil)) pd_non))))))
theorem sc_read : FnScope N_read ["text"] (defScope s_read) := ⟨rfl, rfl, rfl, by decide +kernel, rfl, by decide +kernel, by decide +kernel⟩
theorem bd_read {P : Program} {w : World} {K : PySem.W.Frag} {TT : List (Addr × Str)} {cv : Value → Prop} {mg : Str → Option Value} {base : Heap} (Tx : Txt K mg) (BT : RaisesT P w K mg base Tx.a_BadText) (F_guests_of : Fn P w (K, TT) mg base "guests_of" 2 ["word"] sd_guests_of) (F_is_plan : Fn P w (K, TT) mg base "is_plan" 2 ["plan"] Pl.sd_is_plan) (F_number_of : Fn P w (K, TT) mg base "number_of" 1 ["word"] sd_number_of) : BodyD P w K TT cv mg base N_read "read" (defScope s_read) (defBody s_read) 2 (b_read Tx.a_BadText) := by
  intro f cdv A outer s H E hcv hr
  have nd : (N_read).Nodup := sc_read.nd
  obtain ⟨fT, fdT, oT, iT, tT, FT, bT, mT⟩ := BT.ex
  exact (pdss_cons (pds_asg (pd_lst pda_nil) (pdg_name (i := 1) nd rfl (by first | exact Or.inl rfl | exact Or.inr rfl)))
  (pdss_cons (pds_for poD rfl (pdi_enum rfl Tx.f_enumerate (pd_if (pdt_cp (od_ne hr.units) (pd_var 0 (pv 0)) pd_str) (pd_splitR (pd_var 0 (pv 0)) pd_str) (pd_lst pda_nil))) (pdg_tup rfl (pdgs_cons (pdg_name (i := 2) nd rfl (by first | exact Or.inl rfl | exact Or.inr rfl)) (pdgs_cons (pdg_name (i := 3) nd rfl (by first | exact Or.inl rfl | exact Or.inr rfl)) pdgs_nil))) (pdss_cons (pds_asg (pd_splitF (pd_var 3 (pv 3)) pd_str) (pdg_name (i := 4) nd rfl (by first | exact Or.inl rfl | exact Or.inr rfl)))
  (pdss_cons (pds_asg (pd_btt cd_tup Tx.f_tuple (by decide +kernel) (pda_cons (pd_lcF (own := [("word", 6)]) rfl nd (pdi_seq (pd_slice sldF (pd_var 4 (pv 4)) pdo_none (pdo_some (pd_neg pd_int)))) (blkOk_by (own := [("word", 6)]) (N := N_read) (sc := defScope s_read) (by decide +kernel)) (blk_name (i := 6) (by decide) (fun _ _ _ _ _ => pg_name (i := 6) nd rfl (by first | exact Or.inl rfl | exact Or.inr rfl)) (fun _ _ _ _ _ => pdts_nil) (fun _ _ _ _ _ => (pd_fn F_number_of hr passN (pda_cons (pd_var 6 (pv 6)) pda_nil))))) pda_nil)) (pdg_name (i := 5) nd rfl (by first | exact Or.inl rfl | exact Or.inr rfl)))
  (pdss_cons (pds_asg (pd_fn F_guests_of hr psD (pda_cons (pd_sub (ixd (hu_of hr)) (pd_var 4 (pv 4)) (pd_neg pd_int)) pda_nil)) (pdg_name (i := 7) nd rfl (by first | exact Or.inl rfl | exact Or.inr rfl)))
  (pdss_cons (pds_if (PDW.pdt (pdw_or (pdt_not (pdt_val (pd_fn F_is_plan hr psD (pda_cons (pd_var 5 (pv 5)) pda_nil)))) (pdw_or1 (pdt_cp od_isN (pd_var 7 (pv 7)) pd_non)))) (pdss_one (pds_raiseT oT iT tT FT (hr.mono (by decide)) bT mT tkD (pd_var 2 (pv 2)))) pdss_nil)
  (pdss_one (pds_expr (pd_bm PySem.F.plainAttrs_list PySem.F.slot_list_append PySem.F.type_list_append md_append (pd_var 1 (pv 1)) (pda_cons (pd_tup (pda_cons (pd_var 5 (pv 5)) (pda_cons (pd_var 7 (pv 7)) pda_nil))) pda_nil)))))))))
  (pdss_one (pds_ret (pd_var 1 (pv 1))))))
theorem sc__law_dice : FnScope N__law_dice ["_law_script", "_law_k"] (defScope s__law_dice) := ⟨rfl, rfl, rfl, by decide +kernel, rfl, by decide +kernel, by decide +kernel⟩
theorem bd__law_dice {P : Program} {w : World} {K : PySem.W.Frag} {TT : List (Addr × Str)} {cv : Value → Prop} {mg : Str → Option Value} {base : Heap} (Tx : Txt K mg) : BodyD P w K TT cv mg base N__law_dice "_law_dice" (defScope s__law_dice) (defBody s__law_dice) 0 b__law_dice := by
  intro f cdv A outer s H E hcv hr
  have nd : (N__law_dice).Nodup := sc__law_dice.nd
  exact (pdss_cons (pds_asg (pd_var 1 (pv 1)) (pdg_name (i := 2) nd rfl (by first | exact Or.inl rfl | exact Or.inr rfl)))
  (pdss_cons (pds_for poD rfl (pdi_seq (pd_var 0 (pv 0))) (pdg_name (i := 3) nd rfl (by first | exact Or.inl rfl | exact Or.inr rfl)) (pdss_one (pds_asg (pd_bin od_mod (pd_bin od_add (pd_bin od_mul (pd_var 2 (pv 2)) pd_int) (pd_blt cd_abs Tx.f_abs (by decide +kernel) (pda_cons (pd_var 3 (pv 3)) pda_nil))) pd_int) (pdg_name (i := 2) nd rfl (by first | exact Or.inl rfl | exact Or.inr rfl)))))
  (pdss_one (pds_ret (pd_bin od_add (pd_lst (pda_cons (pd_var 2 (pv 2)) (pda_cons pd_int pda_nil))) (pd_lc (own := [("_law_cell", 3)]) rfl nd (pdi_seq (pd_var 0 (pv 0))) (blkOk_by (own := [("_law_cell", 3)]) (N := N__law_dice) (sc := defScope s__law_dice) (by decide +kernel)) (blk_name (i := 3) (by decide) (fun _ _ _ _ _ => pg_name (i := 3) nd rfl (by first | exact Or.inl rfl | exact Or.inr rfl)) (fun _ _ _ _ _ => (pdts_one (pdt_cp od_ge (pd_var 3 (pv 3)) (pd_bin od_pow pd_int pd_int)))) (fun _ _ _ _ _ => (pd_var 3 (pv 3))))))))))
theorem sc__law_off : FnScope N__law_off ["_law_d", "_law_most"] (defScope s__law_off) := ⟨rfl, rfl, rfl, by decide +kernel, rfl, by decide +kernel, by decide +kernel⟩
theorem bd__law_off {P : Program} {w : World} {K : PySem.W.Frag} {TT : List (Addr × Str)} {cv : Value → Prop} {mg : Str → Option Value} {base : Heap} (Tx : Txt K mg) : BodyD P w K TT cv mg base N__law_off "_law_off" (defScope s__law_off) (defBody s__law_off) 0 b__law_off := by
  intro f cdv A outer s H E hcv hr
  have nd : (N__law_off).Nodup := sc__law_off.nd
  exact (pdss_cons (pds_if (PDW.pdt (pdw_and (pdt_cp (od_eq hr.units) (pd_sub (ixd (hu_of hr)) (pd_var 0 (pv 0)) pd_int) pd_int) (pdw_and1 (pdt_cp od_gt (pd_blt cd_len Tx.f_len (by decide +kernel) (pda_cons (pd_var 0 (pv 0)) pda_nil)) pd_int)))) (pdss_one (pds_asg (pd_bm PySem.F.plainAttrs_list PySem.F.slot_list_pop PySem.F.type_list_pop md_popAt (pd_var 0 (pv 0)) (pda_cons pd_int pda_nil)) (pdg_sub set_listD.1 set_listD.2 (pd_var 0 (pv 0)) pd_int))) pdss_nil)
  (pdss_cons (pds_if (pdt_cp od_gt (pd_sub (ixd (hu_of hr)) (pd_var 0 (pv 0)) pd_int) pd_int) (pdss_cons (pds_asg (pd_bin od_mod (pd_sub (ixd (hu_of hr)) (pd_var 0 (pv 0)) pd_int) (pd_var 1 (pv 1))) (pdg_name (i := 2) nd rfl (by first | exact Or.inl rfl | exact Or.inr rfl)))
  (pdss_cons (pds_asg (pd_bin od_fdiv (pd_sub (ixd (hu_of hr)) (pd_var 0 (pv 0)) pd_int) (pd_var 1 (pv 1))) (pdg_sub set_listD.1 set_listD.2 (pd_var 0 (pv 0)) pd_int))
  (pdss_one (pds_ret (pd_var 2 (pv 2)))))) pdss_nil)
  (pdss_cons (pds_asg (pd_bin od_mod (pd_bin od_add (pd_bin od_mul (pd_sub (ixd (hu_of hr)) (pd_var 0 (pv 0)) pd_int) pd_int) pd_int) pd_int) (pdg_sub set_listD.1 set_listD.2 (pd_var 0 (pv 0)) pd_int))
  (pdss_one (pds_ret (pd_bin od_mod (pd_bin od_fdiv (pd_sub (ixd (hu_of hr)) (pd_var 0 (pv 0)) pd_int) pd_int) (pd_var 1 (pv 1))))))))
theorem sc__law_alike : FnScope N__law_alike ["_law_found", "_law_due"] (defScope s__law_alike) := ⟨rfl, rfl, rfl, by decide +kernel, rfl, by decide +kernel, by decide +kernel⟩
theorem bd__law_alike {P : Program} {w : World} {K : PySem.W.Frag} {TT : List (Addr × Str)} {cv : Value → Prop} {mg : Str → Option Value} {base : Heap} (Tx : Txt K mg) {k : Nat} (F__law_alike : Fn P w (K, TT) mg base "_law_alike" k ["_law_found", "_law_due"] (sd__law_alike k)) : BodyD P w K TT cv mg base N__law_alike "_law_alike" (defScope s__law_alike) (defBody s__law_alike) k (b__law_alike k) := by
  intro f cdv A outer s H E hcv hr
  have nd : (N__law_alike).Nodup := sc__law_alike.nd
  exact (pdss_cons (pds_if (pdt_cp od_isN (pd_var 1 (pv 1)) pd_non) (pdss_one (pds_ret (pd_cp od_isN (pd_var 0 (pv 0)) pd_non))) pdss_nil)
  (pdss_cons (pds_if (pdt_val (pd_blt cd_isi Tx.f_isinstance (by decide +kernel) (pda_cons (pd_var 1 (pv 1)) (pda_cons (pd_ty Tx.f_bool (by decide +kernel)) pda_nil)))) (pdss_one (pds_ret (pd_and (pd_blt cd_isi Tx.f_isinstance (by decide +kernel) (pda_cons (pd_var 0 (pv 0)) (pda_cons (pd_ty Tx.f_bool (by decide +kernel)) pda_nil))) (pd_one (pd_cp (od_eq hr.units) (pd_var 0 (pv 0)) (pd_var 1 (pv 1))))))) pdss_nil)
  (pdss_cons (pds_if (pdt_val (pd_blt cd_isi Tx.f_isinstance (by decide +kernel) (pda_cons (pd_var 1 (pv 1)) (pda_cons (pd_ty Tx.f_int (by decide +kernel)) pda_nil)))) (pdss_one (pds_ret (pd_and (pd_blt cd_isi Tx.f_isinstance (by decide +kernel) (pda_cons (pd_var 0 (pv 0)) (pda_cons (pd_ty Tx.f_int (by decide +kernel)) pda_nil))) (pd_and (pd_not (pd_blt cd_isi Tx.f_isinstance (by decide +kernel) (pda_cons (pd_var 0 (pv 0)) (pda_cons (pd_ty Tx.f_bool (by decide +kernel)) pda_nil)))) (pd_one (pd_cp (od_eq hr.units) (pd_var 0 (pv 0)) (pd_var 1 (pv 1)))))))) pdss_nil)
  (pdss_cons (pds_if (pdt_val (pd_blt cd_isi Tx.f_isinstance (by decide +kernel) (pda_cons (pd_var 1 (pv 1)) (pda_cons (pd_ty Tx.f_str (by decide +kernel)) pda_nil)))) (pdss_one (pds_ret (pd_and (pd_blt cd_isi Tx.f_isinstance (by decide +kernel) (pda_cons (pd_var 0 (pv 0)) (pda_cons (pd_ty Tx.f_str (by decide +kernel)) pda_nil))) (pd_one (pd_cp (od_eq hr.units) (pd_var 0 (pv 0)) (pd_var 1 (pv 1))))))) pdss_nil)
  (pdss_cons (pds_if (PDW.pdt (pdw_or (pdt_cp (od_ne hr.units) (pd_blt cd_isi Tx.f_isinstance (by decide +kernel) (pda_cons (pd_var 1 (pv 1)) (pda_cons (pd_ty Tx.f_tuple (by decide +kernel)) pda_nil))) (pd_blt cd_isi Tx.f_isinstance (by decide +kernel) (pda_cons (pd_var 0 (pv 0)) (pda_cons (pd_ty Tx.f_tuple (by decide +kernel)) pda_nil)))) (pdw_or1 (pdt_cp (od_ne hr.units) (pd_blt cd_isi Tx.f_isinstance (by decide +kernel) (pda_cons (pd_var 1 (pv 1)) (pda_cons (pd_ty Tx.f_list (by decide +kernel)) pda_nil))) (pd_blt cd_isi Tx.f_isinstance (by decide +kernel) (pda_cons (pd_var 0 (pv 0)) (pda_cons (pd_ty Tx.f_list (by decide +kernel)) pda_nil))))))) (pdss_one (pds_ret pd_bl)) pdss_nil)
  (pdss_cons (pds_if (pdt_cp (od_ne hr.units) (pd_blt cd_len Tx.f_len (by decide +kernel) (pda_cons (pd_var 0 (pv 0)) pda_nil)) (pd_blt cd_len Tx.f_len (by decide +kernel) (pda_cons (pd_var 1 (pv 1)) pda_nil))) (pdss_one (pds_ret pd_bl)) pdss_nil)
  (pdss_one (pds_ret (pd_blt (cd_all rfl) Tx.f_all (by decide +kernel) (pda_cons (pd_lc (own := [("_law_k", 2)]) rfl nd (pdi_range1 rfl Tx.f_range (pd_blt cd_len Tx.f_len (by decide +kernel) (pda_cons (pd_var 1 (pv 1)) pda_nil))) (blkOk_by (own := [("_law_k", 2)]) (N := N__law_alike) (sc := defScope s__law_alike) (by decide +kernel)) (blk_name (i := 2) (by decide) (fun _ _ _ _ _ => pg_name (i := 2) nd rfl (by first | exact Or.inl rfl | exact Or.inr rfl)) (fun _ _ _ _ _ => pdts_nil) (fun _ _ _ _ _ => (pd_fn F__law_alike hr passN (pda_cons (pd_sub (ixd (hu_of hr)) (pd_var 0 (pv 0)) (pd_var 2 (pv 2))) (pda_cons (pd_sub (ixd (hu_of hr)) (pd_var 1 (pv 1)) (pd_var 2 (pv 2))) pda_nil)) (Nat.le_refl _))))) pda_nil))))))))))
theorem sc__law_mixed : FnScope N__law_mixed ["_law_d", "_law_row"] (defScope s__law_mixed) := ⟨rfl, rfl, rfl, by decide +kernel, rfl, by decide +kernel, by decide +kernel⟩
theorem bd__law_mixed {P : Program} {w : World} {K : PySem.W.Frag} {TT : List (Addr × Str)} {cv : Value → Prop} {mg : Str → Option Value} {base : Heap} (Tx : Txt K mg) (F__law_off : Fn P w (K, TT) mg base "_law_off" 1 ["_law_d", "_law_most"] sd__law_off) : BodyD P w K TT cv mg base N__law_mixed "_law_mixed" (defScope s__law_mixed) (defBody s__law_mixed) 1 b__law_mixed := by
  intro f cdv A outer s H E hcv hr
  have nd : (N__law_mixed).Nodup := sc__law_mixed.nd
  exact (pdss_cons (pds_asg (pd_btt cd_list Tx.f_list (by decide +kernel) (pda_cons (pd_var 1 (pv 1)) pda_nil)) (pdg_name (i := 2) nd rfl (by first | exact Or.inl rfl | exact Or.inr rfl)))
  (pdss_cons (pds_asg (pd_lst pda_nil) (pdg_name (i := 3) nd rfl (by first | exact Or.inl rfl | exact Or.inr rfl)))
  (pdss_cons (pds_while poD (pdt_cp (od_neE hr.units) (pd_var 2 (pv 2)) (pd_lstF pda_nil)) (pdss_one (pds_expr (pd_bm PySem.F.plainAttrs_list PySem.F.slot_list_append PySem.F.type_list_append md_append (pd_var 3 (pv 3)) (pda_cons (pd_bm PySem.F.plainAttrs_list PySem.F.slot_list_pop PySem.F.type_list_pop md_popAt (pd_var 2 (pv 2)) (pda_cons (pd_fn F__law_off hr psD (pda_cons (pd_var 0 (pv 0)) (pda_cons (pd_blt cd_len Tx.f_len (by decide +kernel) (pda_cons (pd_var 2 (pv 2)) pda_nil)) pda_nil))) pda_nil)) pda_nil)))))
  (pdss_one (pds_frz 3 (pds_ret (pd_var 3 (pv 3))))))))
theorem sc__law_plan : FnScope N__law_plan ["_law_d"] (defScope s__law_plan) := ⟨rfl, rfl, rfl, by decide +kernel, rfl, by decide +kernel, by decide +kernel⟩
theorem bd__law_plan {P : Program} {w : World} {K : PySem.W.Frag} {TT : List (Addr × Str)} {cv : Value → Prop} {mg : Str → Option Value} {base : Heap} (Tx : Txt K mg) (F__law_off : Fn P w (K, TT) mg base "_law_off" 1 ["_law_d", "_law_most"] sd__law_off) : BodyD P w K TT cv mg base N__law_plan "_law_plan" (defScope s__law_plan) (defBody s__law_plan) 1 b__law_plan := by
  intro f cdv A outer s H E hcv hr
  have nd : (N__law_plan).Nodup := sc__law_plan.nd
  exact (pdss_cons (pds_asg (pd_sub (ixd (hu_of hr)) (pd_lstF (pda_cons pd_int (pda_cons (pd_bin od_addF pd_int (pd_fn F__law_off hr psD (pda_cons (pd_var 0 (pv 0)) (pda_cons pd_int pda_nil)))) (pda_cons (pd_bin od_addF pd_int (pd_fn F__law_off hr psD (pda_cons (pd_var 0 (pv 0)) (pda_cons pd_int pda_nil)))) pda_nil)))) (pd_fn F__law_off hr psD (pda_cons (pd_var 0 (pv 0)) (pda_cons pd_int pda_nil)))) (pdg_name (i := 1) nd rfl (by first | exact Or.inl rfl | exact Or.inr rfl)))
  (pdss_cons (pds_asg (pd_bin od_addF pd_int (pd_fn F__law_off hr psD (pda_cons (pd_var 0 (pv 0)) (pda_cons (pd_sub (ixd (hu_of hr)) (pd_lstF (pda_cons pd_int (pda_cons pd_int pda_nil))) (pd_fn F__law_off hr psD (pda_cons (pd_var 0 (pv 0)) (pda_cons pd_int pda_nil)))) pda_nil)))) (pdg_name (i := 2) nd rfl (by first | exact Or.inl rfl | exact Or.inr rfl)))
  (pdss_cons (pds_asg (pd_bin od_addF pd_int (pd_fn F__law_off hr psD (pda_cons (pd_var 0 (pv 0)) (pda_cons (pd_sub (ixd (hu_of hr)) (pd_lstF (pda_cons pd_int (pda_cons pd_int pda_nil))) (pd_fn F__law_off hr psD (pda_cons (pd_var 0 (pv 0)) (pda_cons pd_int pda_nil)))) pda_nil)))) (pdg_name (i := 3) nd rfl (by first | exact Or.inl rfl | exact Or.inr rfl)))
  (pdss_one (pds_ret (pd_tup (pda_cons (pd_fn F__law_off hr psD (pda_cons (pd_var 0 (pv 0)) (pda_cons (pd_sub (ixd (hu_of hr)) (pd_lstF (pda_cons pd_int (pda_cons pd_int pda_nil))) (pd_fn F__law_off hr psD (pda_cons (pd_var 0 (pv 0)) (pda_cons pd_int pda_nil)))) pda_nil))) (pda_cons (pd_var 2 (pv 2)) (pda_cons (pd_var 3 (pv 3)) (pda_cons (pd_var 1 (pv 1)) pda_nil))))))))))
end K17
/-! ### k17: the law's own defs keep their readings -/
namespace K17
open PySem PySem.Spec PyProof.Rows L2 Cc Pl Lw
theorem sc__law_number : FnScope N__law_number ["_law_word", "_law_low", "_law_high"] (defScope s__law_number) := ⟨rfl, rfl, rfl, by decide +kernel, rfl, by decide +kernel, by decide +kernel⟩
theorem bd__law_number {P : Program} {w : World} {K : PySem.W.Frag} {TT : List (Addr × Str)} {cv : Value → Prop} {mg : Str → Option Value} {base : Heap} (Tx : Txt K mg) : BodyD P w K TT cv mg base N__law_number "_law_number" (defScope s__law_number) (defBody s__law_number) 0 (b__law_number) := by
  intro f cdv A outer s H E hcv hr
  have nd : (N__law_number).Nodup := sc__law_number.nd
  exact (pdss_cons (pds_if (PDW.pdt (pdw_or (pdt_cp (od_eq hr.units) (pd_var 0 (pv 0)) pd_str) (pdw_or (pdt_cp (od_neE hr.units) (pd_lcF (own := [("_law_sign", 3)]) rfl nd (pdi_str (pd_var 0 (pv 0))) (blkOk_by (own := [("_law_sign", 3)]) (N := N__law_number) (sc := defScope s__law_number) (by decide +kernel)) (blk_name (i := 3) (by decide) (fun _ _ _ _ _ => pg_name (i := 3) nd rfl (by first | exact Or.inl rfl | exact Or.inr rfl)) (fun _ _ _ _ _ => (pdts_one (pdt_cp (od_notIn (hu_of hr)) (pd_var 3 (pv 3)) pd_str))) (fun _ _ _ _ _ => (pd_var 3 (pv 3))))) (pd_lstF pda_nil)) (pdw_or1 (pdt_cp od_gt (pd_blt cd_len Tx.f_len (by decide +kernel) (pda_cons (pd_var 0 (pv 0)) pda_nil)) pd_int))))) (pdss_one (pds_ret pd_non)) pdss_nil)
  (pdss_one (pds_ret (pd_if (PDW.pdt (pdw_and (pdt_cp (od_eq hr.units) (pd_btt cd_strI Tx.f_str (by decide +kernel) (pda_cons (pd_btt cd_intS Tx.f_int (by decide +kernel) (pda_cons (pd_var 0 (pv 0)) pda_nil)) pda_nil)) (pd_var 0 (pv 0))) (pdw_and1 (pdt_cp2 od_le od_le (pd_var 1 (pv 1)) (pd_btt cd_intS Tx.f_int (by decide +kernel) (pda_cons (pd_var 0 (pv 0)) pda_nil)) (pd_var 2 (pv 2)))))) (pd_btt cd_intS Tx.f_int (by decide +kernel) (pda_cons (pd_var 0 (pv 0)) pda_nil)) pd_non))))
theorem sc__law_line : FnScope N__law_line ["_law_line_here"] (defScope s__law_line) := ⟨rfl, rfl, rfl, by decide +kernel, rfl, by decide +kernel, by decide +kernel⟩
theorem bd__law_line {P : Program} {w : World} {K : PySem.W.Frag} {TT : List (Addr × Str)} {cv : Value → Prop} {mg : Str → Option Value} {base : Heap} (Tx : Txt K mg) (F__law_number : Fn P w (K, TT) mg base "_law_number" 1 ["_law_word", "_law_low", "_law_high"] sd__law_number) : BodyD P w K TT cv mg base N__law_line "_law_line" (defScope s__law_line) (defBody s__law_line) 1 (b__law_line) := by
  intro f cdv A outer s H E hcv hr
  have nd : (N__law_line).Nodup := sc__law_line.nd
  exact (pdss_cons (pds_asg (pd_splitF (pd_var 0 (pv 0)) pd_str) (pdg_name (i := 1) nd rfl (by first | exact Or.inl rfl | exact Or.inr rfl)))
  (pdss_cons (pds_if (pdt_cp (od_ne hr.units) (pd_blt cd_len Tx.f_len (by decide +kernel) (pda_cons (pd_var 1 (pv 1)) pda_nil)) pd_int) (pdss_one (pds_ret pd_non)) pdss_nil)
  (pdss_cons (pds_asg (pd_lstF (pda_cons (pd_tup (pda_cons pd_int (pda_cons pd_int pda_nil))) (pda_cons (pd_tup (pda_cons pd_int (pda_cons pd_int pda_nil))) (pda_cons (pd_tup (pda_cons pd_int (pda_cons pd_int pda_nil))) (pda_cons (pd_tup (pda_cons pd_int (pda_cons pd_int pda_nil))) pda_nil))))) (pdg_name (i := 2) nd rfl (by first | exact Or.inl rfl | exact Or.inr rfl)))
  (pdss_cons (pds_setLcF (i := 3) (own := [("_law_k", 4)]) rfl nd rfl rfl (sw_true rfl rfl rfl (by decide +kernel)) (pdi_range1 rfl Tx.f_range pd_int) (blkOk_by (own := [("_law_k", 4)]) (N := N__law_line) (sc := defScope s__law_line) (by decide +kernel)) (blk_name (i := 4) (by decide) (fun _ _ _ _ _ => pg_name (i := 4) nd rfl (by first | exact Or.inl rfl | exact Or.inr rfl)) (fun _ _ _ _ _ => pdts_nil) (fun _ _ _ _ _ => (pd_fn F__law_number hr passN (pda_cons (pd_sub (ixd (hu_of hr)) (pd_var 1 (pv 1)) (pd_var 4 (pv 4))) (pda_cons (pd_sub (ixd (hu_of hr)) (pd_sub (ixd (hu_of hr)) (pd_var 2 (pv 2)) (pd_var 4 (pv 4))) pd_int) (pda_cons (pd_sub (ixd (hu_of hr)) (pd_sub (ixd (hu_of hr)) (pd_var 2 (pv 2)) (pd_var 4 (pv 4))) pd_int) pda_nil)))))))
  (pdss_cons (pds_asg (pd_if (pdt_cp (od_eq hr.units) (pd_sub (ixd (hu_of hr)) (pd_var 1 (pv 1)) pd_int) pd_str) (pd_lstF pda_nil) (pd_lcF (own := [("_law_part", 6)]) rfl nd (pdi_seq (pd_splitF (pd_sub (ixd (hu_of hr)) (pd_var 1 (pv 1)) pd_int) pd_str)) (blkOk_by (own := [("_law_part", 6)]) (N := N__law_line) (sc := defScope s__law_line) (by decide +kernel)) (blk_name (i := 6) (by decide) (fun _ _ _ _ _ => pg_name (i := 6) nd rfl (by first | exact Or.inl rfl | exact Or.inr rfl)) (fun _ _ _ _ _ => pdts_nil) (fun _ _ _ _ _ => (pd_fn F__law_number hr passN (pda_cons (pd_var 6 (pv 6)) (pda_cons pd_int (pda_cons pd_int pda_nil)))))))) (pdg_name (i := 5) nd rfl (by first | exact Or.inl rfl | exact Or.inr rfl)))
  (pdss_cons (pds_if (PDW.pdt (pdw_or (pdt_cp (od_in (hu_of hr)) pd_non (pd_var 3 (pv 3))) (pdw_or (pdt_cp (od_in (hu_of hr)) pd_non (pd_var 5 (pv 5))) (pdw_or (pdt_cp od_gt (pd_blt cd_len Tx.f_len (by decide +kernel) (pda_cons (pd_var 5 (pv 5)) pda_nil)) pd_int) (pdw_or1 (pdt_cp (od_ne hr.units) (pd_var 5 (pv 5)) (pd_sortSetL Tx.f_sorted Tx.f_set (pd_var 5 (pv 5))))))))) (pdss_one (pds_ret pd_non)) pdss_nil)
  (pdss_one (pds_ret (pd_tup (pda_cons (pd_btt cd_tup Tx.f_tuple (by decide +kernel) (pda_cons (pd_var 3 (pv 3)) pda_nil)) (pda_cons (pd_btt cd_tup Tx.f_tuple (by decide +kernel) (pda_cons (pd_var 5 (pv 5)) pda_nil)) pda_nil)))))))))))
theorem sc__law_changed : FnScope N__law_changed ["_law_d", "_law_text"] (defScope s__law_changed) := ⟨rfl, rfl, rfl, by decide +kernel, rfl, by decide +kernel, by decide +kernel⟩
theorem bd__law_changed {P : Program} {w : World} {K : PySem.W.Frag} {TT : List (Addr × Str)} {cv : Value → Prop} {mg : Str → Option Value} {base : Heap} (Tx : Txt K mg) (F__law_off : Fn P w (K, TT) mg base "_law_off" 1 ["_law_d", "_law_most"] sd__law_off) : BodyD P w K TT cv mg base N__law_changed "_law_changed" (defScope s__law_changed) (defBody s__law_changed) 1 (b__law_changed) := by
  intro f cdv A outer s H E hcv hr
  have nd : (N__law_changed).Nodup := sc__law_changed.nd
  exact (pdss_cons (pds_asg (pd_splitF (pd_var 1 (pv 1)) pd_str) (pdg_name (i := 2) nd rfl (by first | exact Or.inl rfl | exact Or.inr rfl)))
  (pdss_cons (pds_asg (pd_fn F__law_off hr psD (pda_cons (pd_var 0 (pv 0)) (pda_cons (pd_blt cd_len Tx.f_len (by decide +kernel) (pda_cons (pd_var 2 (pv 2)) pda_nil)) pda_nil))) (pdg_name (i := 3) nd rfl (by first | exact Or.inl rfl | exact Or.inr rfl)))
  (pdss_cons (pds_asg (pd_splitR (pd_sub (ixd (hu_of hr)) (pd_var 2 (pv 2)) (pd_var 3 (pv 3))) pd_str) (pdg_name (i := 4) nd rfl (by first | exact Or.inl rfl | exact Or.inr rfl)))
  (pdss_cons (pds_asg (pd_fn F__law_off hr psD (pda_cons (pd_var 0 (pv 0)) (pda_cons (pd_bin od_addF (pd_blt cd_len Tx.f_len (by decide +kernel) (pda_cons (pd_var 4 (pv 4)) pda_nil)) pd_int) pda_nil))) (pdg_name (i := 5) nd rfl (by first | exact Or.inl rfl | exact Or.inr rfl)))
  (pdss_cons (pds_asg (pd_lstF (pda_cons pd_str (pda_cons pd_str (pda_cons pd_str (pda_cons pd_str (pda_cons pd_str (pda_cons pd_str (pda_cons pd_str (pda_cons pd_str (pda_cons pd_str (pda_cons pd_str (pda_cons pd_str (pda_cons pd_str (pda_cons pd_str (pda_cons pd_str (pda_cons pd_str pda_nil)))))))))))))))) (pdg_name (i := 6) nd rfl (by first | exact Or.inl rfl | exact Or.inr rfl)))
  (pdss_cons (pds_asg (pd_sub (ixd (hu_of hr)) (pd_bin od_addF (pd_var 6 (pv 6)) (pd_lstF (pda_cons pd_str (pda_cons pd_str pda_nil)))) (pd_fn F__law_off hr psD (pda_cons (pd_var 0 (pv 0)) (pda_cons pd_int pda_nil)))) (pdg_name (i := 7) nd rfl (by first | exact Or.inl rfl | exact Or.inr rfl)))
  (pdss_cons (pds_asg (pd_fn F__law_off hr psD (pda_cons (pd_var 0 (pv 0)) (pda_cons pd_int pda_nil))) (pdg_name (i := 8) nd rfl (by first | exact Or.inl rfl | exact Or.inr rfl)))
  (pdss_cons (pds_if (pdt_cp (od_eq hr.units) (pd_var 8 (pv 8)) pd_int) (pdss_one (pds_asg (pd_bin od_addF (pd_slice sldF (pd_var 4 (pv 4)) pdo_none (pdo_some (pd_var 5 (pv 5)))) (pd_slice sldF (pd_var 4 (pv 4)) (pdo_some (pd_bin od_addF (pd_var 5 (pv 5)) pd_int)) pdo_none)) (pdg_name (i := 4) nd rfl (by first | exact Or.inl rfl | exact Or.inr rfl)))) (pdss_one (pds_if (pdt_cp od_lt (pd_var 8 (pv 8)) pd_int) (pdss_one (pds_asg (pd_bin od_addF (pd_bin od_addF (pd_slice sldF (pd_var 4 (pv 4)) pdo_none (pdo_some (pd_var 5 (pv 5)))) (pd_lstF (pda_cons (pd_var 7 (pv 7)) pda_nil))) (pd_slice sldF (pd_var 4 (pv 4)) (pdo_some (pd_bin od_sub (pd_bin od_addF (pd_var 5 (pv 5)) (pd_var 8 (pv 8))) pd_int)) pdo_none)) (pdg_name (i := 4) nd rfl (by first | exact Or.inl rfl | exact Or.inr rfl)))) (pdss_cons (pds_asg (pd_blt (cd_min2 rfl) Tx.f_min (by decide +kernel) (pda_cons (pd_var 5 (pv 5)) (pda_cons (pd_bin od_sub (pd_blt cd_len Tx.f_len (by decide +kernel) (pda_cons (pd_var 4 (pv 4)) pda_nil)) pd_int) pda_nil))) (pdg_name (i := 5) nd rfl (by first | exact Or.inl rfl | exact Or.inr rfl)))
  (pdss_one (pds_asg (pd_bin od_addF (pd_sub (ixd (hu_of hr)) (pd_var 4 (pv 4)) (pd_var 5 (pv 5))) (pd_sub (ixd (hu_of hr)) (pd_lstF (pda_cons pd_str (pda_cons pd_str (pda_cons pd_str (pda_cons pd_str pda_nil))))) (pd_fn F__law_off hr psD (pda_cons (pd_var 0 (pv 0)) (pda_cons pd_int pda_nil))))) (pdg_sub set_listD.1 set_listD.2 (pd_var 4 (pv 4)) (pd_var 5 (pv 5)))))))))
  (pdss_one (pds_frz 4 (pds_ret (pd_bm PySem.F.plainAttrs_str PySem.F.slot_str_join PySem.F.type_str_join md_join pd_str (pda_cons (pd_bin od_addF (pd_bin od_addF (pd_slice sldF (pd_var 2 (pv 2)) pdo_none (pdo_some (pd_var 3 (pv 3)))) (pd_lstF (pda_cons (pd_bm PySem.F.plainAttrs_str PySem.F.slot_str_join PySem.F.type_str_join md_join pd_str (pda_cons (pd_var 4 (pv 4)) pda_nil)) pda_nil))) (pd_slice sldF (pd_var 2 (pv 2)) (pdo_some (pd_bin od_addF (pd_var 3 (pv 3)) pd_int)) pdo_none)) pda_nil)))))))))))))
theorem sc__law_is_right : FnScope N__law_is_right ["_law_text"] (defScope s__law_is_right) := ⟨rfl, rfl, rfl, by decide +kernel, rfl, by decide +kernel, by decide +kernel⟩
theorem bd__law_is_right {P : Program} {w : World} {K : PySem.W.Frag} {TT : List (Addr × Str)} {mg : Str → Option Value} {base : Heap} (Tx : Txt K mg) (F__law_alike : Fn P w (K, TT) mg base "_law_alike" 6 ["_law_found", "_law_due"] (sd__law_alike 6)) (F__law_line : Fn P w (K, TT) mg base "_law_line" 2 ["_law_line_here"] sd__law_line) (F_read : Fn P w (K, TT) mg base "read" 3 ["text"] (sd_read Tx.a_BadText)) {gR : Addr} {fdR : FuncData} (FR : FunD K "_law_refused" "_law_refused" (defArgs s_ref) (defBody s_ref) (defScope s_ref) [] [] gR fdR) (mR : mg "_law_refused" = some (.ref gR)) {aA : Addr} {fdA : FuncData} (FaA : L2H.FnH P w K mg base (L2N.CX P w) 1 aA fdA ["_law_found", "_law_due"] (upF (K, TT) sdAlI)) (maA : mg "_law_alike" = some (.ref aA)) (kaA : PySem.W.keepIn K (.ref aA) = true) (baA : Binds K fdA ["_law_found", "_law_due"] []) {c PA : Addr} (TB : LamX.TabB base mg c PA) (hmT : (PA, ("_law_is_right" : Str) ++ ".<locals>." ++ "<lambda>") ∈ TT) (huT : ∀ q ∈ TT, q.1 = PA → q.2 = ("_law_is_right" : Str) ++ ".<locals>." ++ "<lambda>") : BodyD P w K TT (fun v => v = .ref c) mg base N__law_is_right "_law_is_right" (defScope s__law_is_right) (defBody s__law_is_right) 6 (b__law_is_right Tx.a_BadText (OkR Tx.r)) := by
  intro f cdv A outer s H E hcv hr
  have nd : (N__law_is_right).Nodup := sc__law_is_right.nd
  have hcode : cdv = .ref c := hcv
  subst hcode
  exact (pdss_cons (pds_asg (pd_lst pda_nil) (pdg_name (i := 1) nd rfl (by first | exact Or.inl rfl | exact Or.inr rfl)))
  (pdss_cons (pds_asg (pd_if (pdt_cp (od_ne hr.units) (pd_var 0 (pv 0)) pd_str) (pd_splitF (pd_var 0 (pv 0)) pd_str) (pd_lstF pda_nil)) (pdg_name (i := 2) nd rfl (by first | exact Or.inl rfl | exact Or.inr rfl)))
  (pdss_cons (pds_for poD rfl (pdi_range1 rfl Tx.f_range (pd_blt cd_len Tx.f_len (by decide +kernel) (pda_cons (pd_var 2 (pv 2)) pda_nil))) (pdg_name (i := 3) nd rfl (by first | exact Or.inl rfl | exact Or.inr rfl)) (pdss_cons (pds_asg (pd_fn F__law_line hr psD (pda_cons (pd_sub (ixd (hu_of hr)) (pd_var 2 (pv 2)) (pd_var 3 (pv 3))) pda_nil)) (pdg_name (i := 4) nd rfl (by first | exact Or.inl rfl | exact Or.inr rfl)))
  (pdss_cons (pds_if (pdt_cp od_isN (pd_var 4 (pv 4)) pd_non) (pdss_one (pds_ret (pd_refG (X := cxOf (L2N.CX P w) P w K mg base N__law_is_right "_law_is_right" (defScope s__law_is_right) f (.ref c) A outer s H E) (k := 3) FR mR sc_ref (fun _ _ _ _ _ _ us hl => match us, hl with | [_, _, _], _ => rfl) (fun cdg => ref_G (X := cxOf (L2N.CX P w) P w K mg base N__law_is_right "_law_is_right" (defScope s__law_is_right) f (.ref c) A outer s H E) Tx (Nat.lt_of_le_of_lt (Nat.add_le_add_right (Nat.le_add_right _ _) _) hr.un) FaA maA kaA baA) psD qd_str (qd_var 3) TB rfl hmT huT (hr.mono (by decide)) (LamX.lamS_by (sc := defScope s__law_is_right) (by decide +kernel)) rfl (fun _ _ _ _ _ => rfl) (fun A1 outer1 s1 H1 E1 f1 c1 hr => (pd_fn F_read hr (psL (X := cxOf (L2N.CX P w) P w K mg base N__law_is_right "_law_is_right" (defScope s__law_is_right) f (.ref c) A outer s H E)) (pda_cons (pd_var 0 (pv 0)) pda_nil)))))) pdss_nil)
  (pdss_one (pds_expr (pd_bm PySem.F.plainAttrs_list PySem.F.slot_list_append PySem.F.type_list_append md_append (pd_var 1 (pv 1)) (pda_cons (pd_var 4 (pv 4)) pda_nil)))))))
  (pdss_one (pds_frz 1 (pds_ret (pd_fn F__law_alike hr psD (pda_cons (pd_fn F_read hr psD (pda_cons (pd_var 0 (pv 0)) pda_nil)) (pda_cons (pd_var 1 (pv 1)) pda_nil)))))))))
theorem sc_law : FnScope N_law ["_law_script"] (defScope s_law) := ⟨rfl, rfl, rfl, by decide +kernel, rfl, by decide +kernel, by decide +kernel⟩
theorem bd_law {P : Program} {w : World} {K : PySem.W.Frag} {TT : List (Addr × Str)} {mg : Str → Option Value} {base : Heap} (Tx : Txt K mg) (F__law_alike : Fn P w (K, TT) mg base "_law_alike" 6 ["_law_found", "_law_due"] (sd__law_alike 6)) (F__law_changed : Fn P w (K, TT) mg base "_law_changed" 2 ["_law_d", "_law_text"] sd__law_changed) (F__law_dice : Fn P w (K, TT) mg base "_law_dice" 1 ["_law_script", "_law_k"] sd__law_dice) (F__law_is_right : Fn P w (K, TT) mg base "_law_is_right" 7 ["_law_text"] sd__law_is_right) (F__law_mixed : Fn P w (K, TT) mg base "_law_mixed" 2 ["_law_d", "_law_row"] Lw.sd__law_mixed) (F__law_off : Fn P w (K, TT) mg base "_law_off" 1 ["_law_d", "_law_most"] sd__law_off) (F__law_plan : Fn P w (K, TT) mg base "_law_plan" 2 ["_law_d"] Lw.sd__law_plan) (F_read : Fn P w (K, TT) mg base "read" 3 ["text"] (sd_read Tx.a_BadText)) (F_written : Fn P w (K, TT) mg base "written" 4 ["calls"] (sd_written Tx.a_BadPlan Tx.a_BadHand)) {gR : Addr} {fdR : FuncData} (FR : FunD K "_law_refused" "_law_refused" (defArgs s_ref) (defBody s_ref) (defScope s_ref) [] [] gR fdR) (mR : mg "_law_refused" = some (.ref gR)) {aA : Addr} {fdA : FuncData} (FaA : L2H.FnH P w K mg base (L2N.CX P w) 1 aA fdA ["_law_found", "_law_due"] (upF (K, TT) sdAlI)) (maA : mg "_law_alike" = some (.ref aA)) (kaA : PySem.W.keepIn K (.ref aA) = true) (baA : Binds K fdA ["_law_found", "_law_due"] []) {c PA : Addr} (TB : LamX.TabB base mg c PA) (hmT : (PA, ("law" : Str) ++ ".<locals>." ++ "<lambda>") ∈ TT) (huT : ∀ q ∈ TT, q.1 = PA → q.2 = ("law" : Str) ++ ".<locals>." ++ "<lambda>") : BodyD P w K TT (fun v => v = .ref c) mg base N_law "law" (defScope s_law) (defBody s_law) 7 (b_law Tx.a_BadHand Tx.a_BadPlan Tx.a_BadText (OkR Tx.r)) := by
  intro f cdv A outer s H E hcv hr
  have nd : (N_law).Nodup := sc_law.nd
  have hcode : cdv = .ref c := hcv
  subst hcode
  exact (pdss_cons (pds_asg (pd_fn F__law_dice hr psD (pda_cons (pd_var 0 (pv 0)) (pda_cons pd_int pda_nil))) (pdg_name (i := 1) nd rfl (by first | exact Or.inl rfl | exact Or.inr rfl)))
  (pdss_cons (pds_for poD rfl (pdi_range1 rfl Tx.f_range pd_int) (pdg_name (i := 2) nd rfl (by first | exact Or.inl rfl | exact Or.inr rfl)) (pdss_cons (pds_asg (pd_lst pda_nil) (pdg_name (i := 3) nd rfl (by first | exact Or.inl rfl | exact Or.inr rfl)))
  (pdss_cons (pds_for poD rfl (pdi_range1 rfl Tx.f_range (pd_fn F__law_off hr psD (pda_cons (pd_var 1 (pv 1)) (pda_cons (pd_sub (ixd (hu_of hr)) (pd_lstF (pda_cons pd_int (pda_cons pd_int (pda_cons pd_int (pda_cons pd_int pda_nil))))) (pd_fn F__law_off hr psD (pda_cons (pd_var 1 (pv 1)) (pda_cons pd_int pda_nil)))) pda_nil)))) (pdg_name (i := 4) nd rfl (by first | exact Or.inl rfl | exact Or.inr rfl)) (pdss_one (pds_expr (pd_bm PySem.F.plainAttrs_list PySem.F.slot_list_append PySem.F.type_list_append md_append (pd_var 3 (pv 3)) (pda_cons (pd_tup (pda_cons (pd_fn F__law_plan hr psD (pda_cons (pd_var 1 (pv 1)) pda_nil)) (pda_cons (pd_btt cd_tup Tx.f_tuple (by decide +kernel) (pda_cons (pd_blt (cd_sortedF hr.units) Tx.f_sorted (by decide +kernel) (pda_cons (pd_slice sldF (pd_fn F__law_mixed hr psD (pda_cons (pd_var 1 (pv 1)) (pda_cons (pd_listRg Tx.f_list Tx.f_range pd_int) pda_nil))) pdo_none (pdo_some (pd_fn F__law_off hr psD (pda_cons (pd_var 1 (pv 1)) (pda_cons pd_int pda_nil))))) pda_nil)) pda_nil)) pda_nil))) pda_nil)))))
  (pdss_cons (pds_asg (pd_lst pda_nil) (pdg_name (i := 5) nd rfl (by first | exact Or.inl rfl | exact Or.inr rfl)))
  (pdss_cons (pds_frz 3 (pds_for poD rfl (pdi_seq (pd_var 3 (pv 3))) (pdg_tup rfl (pdgs_cons (pdg_name (i := 6) nd rfl (by first | exact Or.inl rfl | exact Or.inr rfl)) (pdgs_cons (pdg_name (i := 7) nd rfl (by first | exact Or.inl rfl | exact Or.inr rfl)) pdgs_nil))) (pdss_cons (pds_asg (pd_if (pdt_cp (od_ne hr.units) (pd_var 7 (pv 7)) (pd_tup pda_nil)) (pd_bm PySem.F.plainAttrs_str PySem.F.slot_str_join PySem.F.type_str_join md_join pd_str (pda_cons (pd_lcF (own := [("_law_hand", 9)]) rfl nd (pdi_seq (pd_var 7 (pv 7))) (blkOk_by (own := [("_law_hand", 9)]) (N := N_law) (sc := defScope s_law) (by decide +kernel)) (blk_name (i := 9) (by decide) (fun _ _ _ _ _ => pg_name (i := 9) nd rfl (by first | exact Or.inl rfl | exact Or.inr rfl)) (fun _ _ _ _ _ => pdts_nil) (fun _ _ _ _ _ => (pd_btt cd_strI Tx.f_str (by decide +kernel) (pda_cons (pd_var 9 (pv 9)) pda_nil))))) pda_nil)) pd_str) (pdg_name (i := 8) nd rfl (by first | exact Or.inl rfl | exact Or.inr rfl)))
  (pdss_one (pds_expr (pd_bm PySem.F.plainAttrs_list PySem.F.slot_list_append PySem.F.type_list_append md_append (pd_var 5 (pv 5)) (pda_cons (pd_bm PySem.F.plainAttrs_str PySem.F.slot_str_join PySem.F.type_str_join md_join pd_str (pda_cons (pd_bin od_addF (pd_lcF (own := [("_law_part", 10)]) rfl nd (pdi_seq (pd_var 6 (pv 6))) (blkOk_by (own := [("_law_part", 10)]) (N := N_law) (sc := defScope s_law) (by decide +kernel)) (blk_name (i := 10) (by decide) (fun _ _ _ _ _ => pg_name (i := 10) nd rfl (by first | exact Or.inl rfl | exact Or.inr rfl)) (fun _ _ _ _ _ => pdts_nil) (fun _ _ _ _ _ => (pd_btt cd_strI Tx.f_str (by decide +kernel) (pda_cons (pd_var 10 (pv 10)) pda_nil))))) (pd_lstF (pda_cons (pd_var 8 (pv 8)) pda_nil))) pda_nil)) pda_nil)))))))
  (pdss_cons (pds_frz 5 (pds_asg (pd_bm PySem.F.plainAttrs_str PySem.F.slot_str_join PySem.F.type_str_join md_join pd_str (pda_cons (pd_var 5 (pv 5)) pda_nil)) (pdg_name (i := 11) nd rfl (by first | exact Or.inl rfl | exact Or.inr rfl))))
  (pdss_cons (pds_asg (pd_btt cd_listF Tx.f_list (by decide +kernel) (pda_cons (pd_var 3 (pv 3)) pda_nil)) (pdg_name (i := 12) nd rfl (by first | exact Or.inl rfl | exact Or.inr rfl)))
  (pdss_cons (pds_if (PDW.pdt (pdw_or (pdt_not (pdt_val (pd_fn F__law_alike hr psD (pda_cons (pd_fn F_written hr psD (pda_cons (pd_var 12 (pv 12)) pda_nil)) (pda_cons (pd_var 11 (pv 11)) pda_nil))))) (pdw_or (pdt_cp (od_ne hr.units) (pd_var 12 (pv 12)) (pd_var 3 (pv 3))) (pdw_or1 (pdt_not (pdt_val (pd_fn F__law_alike hr psD (pda_cons (pd_fn F_read hr psD (pda_cons (pd_var 11 (pv 11)) pda_nil)) (pda_cons (pd_var 3 (pv 3)) pda_nil))))))))) (pdss_one (pds_ret pd_bl)) pdss_nil)
  (pdss_cons (pds_expr (pd_bm PySem.F.plainAttrs_list PySem.F.slot_list_append PySem.F.type_list_append md_append (pd_fn F_read hr psD (pda_cons (pd_var 11 (pv 11)) pda_nil)) (pda_cons (pd_tup pda_nil) pda_nil)))
  (pdss_cons (pds_asg (pd_var 11 (pv 11)) (pdg_name (i := 13) nd rfl (by first | exact Or.inl rfl | exact Or.inr rfl)))
  (pdss_cons (pds_for poD rfl (pdi_range1 rfl Tx.f_range (pd_bin od_addF pd_int (pd_fn F__law_off hr psD (pda_cons (pd_var 1 (pv 1)) (pda_cons pd_int pda_nil))))) (pdg_name (i := 14) nd rfl (by first | exact Or.inl rfl | exact Or.inr rfl)) (pdss_one (pds_asg (pd_fn F__law_changed hr psD (pda_cons (pd_var 1 (pv 1)) (pda_cons (pd_var 13 (pv 13)) pda_nil))) (pdg_name (i := 13) nd rfl (by first | exact Or.inl rfl | exact Or.inr rfl)))))
  (pdss_cons (pds_if (pdt_not (pdt_val (pd_fn F__law_is_right hr psD (pda_cons (pd_var 13 (pv 13)) pda_nil)))) (pdss_one (pds_ret pd_bl)) pdss_nil)
  (pdss_cons (pds_asg (pd_fn F__law_off hr psD (pda_cons (pd_var 1 (pv 1)) (pda_cons (pd_bin od_addF (pd_blt cd_len Tx.f_len (by decide +kernel) (pda_cons (pd_var 3 (pv 3)) pda_nil)) pd_int) pda_nil))) (pdg_name (i := 15) nd rfl (by first | exact Or.inl rfl | exact Or.inr rfl)))
  (pdss_cons (pds_asg (pd_sub (ixd (hu_of hr)) (pd_lstF (pda_cons (pd_tup (pda_cons (pd_tup (pda_cons (pd_tup (pda_cons pd_int (pda_cons pd_int (pda_cons pd_int (pda_cons pd_int pda_nil))))) (pda_cons (pd_tup (pda_cons pd_int pda_nil)) pda_nil))) (pda_cons pd_str pda_nil))) (pda_cons (pd_tup (pda_cons (pd_tup (pda_cons (pd_tup (pda_cons pd_int (pda_cons pd_int (pda_cons pd_int (pda_cons pd_int pda_nil))))) (pda_cons (pd_tup (pda_cons pd_int pda_nil)) pda_nil))) (pda_cons pd_str pda_nil))) (pda_cons (pd_tup (pda_cons (pd_tup (pda_cons (pd_tup pda_nil) (pda_cons (pd_tup pda_nil) pda_nil))) (pda_cons pd_str pda_nil))) pda_nil)))) (pd_fn F__law_off hr psD (pda_cons (pd_var 1 (pv 1)) (pda_cons pd_int pda_nil)))) (pdg_tup rfl (pdgs_cons (pdg_name (i := 16) nd rfl (by first | exact Or.inl rfl | exact Or.inr rfl)) (pdgs_cons (pdg_name (i := 17) nd rfl (by first | exact Or.inl rfl | exact Or.inr rfl)) pdgs_nil))))
  (pdss_cons (pds_if (pdt_cp od_gt (pd_fn F__law_off hr psD (pda_cons (pd_var 1 (pv 1)) (pda_cons pd_int pda_nil))) pd_int) (pdss_cons (pds_asg (pd_lstF (pda_cons (pd_tup (pda_cons pd_int (pda_cons pd_int pda_nil))) (pda_cons (pd_tup (pda_cons pd_int (pda_cons pd_int pda_nil))) (pda_cons (pd_tup (pda_cons pd_int (pda_cons pd_int (pda_cons pd_int (pda_cons pd_int (pda_cons pd_int (pda_cons pd_int (pda_cons pd_int pda_nil)))))))) (pda_cons (pd_tup (pda_cons pd_int (pda_cons pd_int pda_nil))) (pda_cons (pd_tup (pda_cons (pd_neg pd_int) pda_nil)) (pda_cons (pd_tup (pda_cons pd_bl pda_nil)) (pda_cons (pd_tup (pda_cons pd_int (pda_cons pd_int (pda_cons pd_int pda_nil)))) (pda_cons (pd_tup (pda_cons pd_int (pda_cons pd_int (pda_cons pd_int pda_nil)))) (pda_cons (pd_tup (pda_cons pd_str pda_nil)) pda_nil)))))))))) (pdg_name (i := 18) nd rfl (by first | exact Or.inl rfl | exact Or.inr rfl)))
  (pdss_one (pds_par2 rfl nd rfl rfl (by decide) rfl rfl (pda_cons (pd_tup (pda_cons (pd_tup (pda_cons pd_int (pda_cons pd_int (pda_cons pd_int (pda_cons pd_int pda_nil))))) (pda_cons (pd_sub (ixd (hu_of hr)) (pd_var 18 (pv 18)) (pd_fn F__law_off hr psD (pda_cons (pd_var 1 (pv 1)) (pda_cons pd_int pda_nil)))) pda_nil))) (pda_cons pd_str pda_nil))))) pdss_nil)
  (pdss_cons (pds_asg (pd_bin od_addF (pd_bin od_addF (pd_bin od_addF (pd_slice sldF (pd_var 3 (pv 3)) pdo_none (pdo_some (pd_var 15 (pv 15)))) (pd_lstF (pda_cons (pd_var 16 (pv 16)) pda_nil))) (pd_slice sldF (pd_var 3 (pv 3)) (pdo_some (pd_var 15 (pv 15))) pdo_none)) (pd_repL (pda_cons (pd_tup (pda_cons (pd_tup (pda_cons pd_int (pda_cons pd_int (pda_cons pd_int (pda_cons pd_int pda_nil))))) (pda_cons (pd_tup (pda_cons (pd_neg pd_int) pda_nil)) pda_nil))) pda_nil) (pd_fn F__law_off hr psD (pda_cons (pd_var 1 (pv 1)) (pda_cons pd_int pda_nil))))) (pdg_name (i := 13) nd rfl (by first | exact Or.inl rfl | exact Or.inr rfl)))
  (pdss_one (pds_if (pdt_not (pdt_val (pd_refG (X := cxOf (L2N.CX P w) P w K mg base N_law "law" (defScope s_law) f (.ref c) A outer s H E) (k := 4) FR mR sc_ref (fun _ _ _ _ _ _ us hl => match us, hl with | [_, _, _], _ => rfl) (fun cdg => ref_G (X := cxOf (L2N.CX P w) P w K mg base N_law "law" (defScope s_law) f (.ref c) A outer s H E) Tx (Nat.lt_of_le_of_lt (Nat.add_le_add_right (Nat.le_add_right _ _) _) hr.un) FaA maA kaA baA) psD (qd_var 17) qd_int TB rfl hmT huT (hr.mono (by decide)) (LamX.lamS_by (sc := defScope s_law) (by decide +kernel)) rfl (fun _ _ _ _ _ => rfl) (fun A1 outer1 s1 H1 E1 f1 c1 hr => (pd_fn F_written hr (psL (X := cxOf (L2N.CX P w) P w K mg base N_law "law" (defScope s_law) f (.ref c) A outer s H E)) (pda_cons (pd_var 13 (pv 13)) pda_nil)))))) (pdss_one (pds_ret pd_bl)) pdss_nil))))))))))))))))))
  (pdss_one (pds_ret (pd_and (pd_fn F__law_alike hr psD (pda_cons (pd_fn F_read hr psD (pda_cons pd_str pda_nil)) (pda_cons (pd_lstF pda_nil) pda_nil))) (pd_one (pd_refG (X := cxOf (L2N.CX P w) P w K mg base N_law "law" (defScope s_law) f (.ref c) A outer s H E) (k := 3) FR mR sc_ref (fun _ _ _ _ _ _ us hl => match us, hl with | [_, _, _], _ => rfl) (fun cdg => ref_G (X := cxOf (L2N.CX P w) P w K mg base N_law "law" (defScope s_law) f (.ref c) A outer s H E) Tx (Nat.lt_of_le_of_lt (Nat.add_le_add_right (Nat.le_add_right _ _) _) hr.un) FaA maA kaA baA) psD qd_str qd_int TB rfl hmT huT (hr.mono (by decide)) (LamX.lamS_by (sc := defScope s_law) (by decide +kernel)) rfl (fun _ _ _ _ _ => rfl) (fun A1 outer1 s1 H1 E1 f1 c1 hr => (pd_fn F_read hr (psL (X := cxOf (L2N.CX P w) P w K mg base N_law "law" (defScope s_law) f (.ref c) A outer s H E)) (pda_cons pd_str pda_nil))))))))))
end K17
/-! ### a tuple in a tuple of the module's -/
namespace Cc
open PySem PySem.Spec PyProof.Rows L2
theorem isTupC_ok {v : Value} (h : isTupC v = true) : v = Value.type "tuple" := by
  unfold isTupC at h
  split at h
  · rw [of_decide_eq_true h]
  · cases h
theorem tupBA_ok {K : PySem.W.Frag} {a : Addr} {vs : List He.Dv} (h : tupBA K a vs = true) (H : Hp) : SqT K H a (vs.map (He.Dv.v K)) := by
  unfold tupBA at h
  split at h
  · rename_i o q
    rw [Bool.and_eq_true, Bool.and_eq_true] at h
    obtain ⟨h1, h2, h3⟩ := h
    split at h3
    · rename_i its n e
      rw [Bool.and_eq_true, decide_eq_true_eq] at h3
      exact .inr ⟨_, its, n, q, isTupC_ok h1, e, h3.1, He.relAll_ok h3.2⟩
    · cases h3
  · cases h
end Cc
namespace K17
open PySem PySem.Spec PyProof.Rows L2 Cc Pl Lw
abbrev TT (K : PySem.W.Frag) : List (Addr × Str) := [((He.cT K ("_law_is_right", none)).2, ("_law_is_right" : Str) ++ ".<locals>." ++ "<lambda>"), ((He.cT K ("law", none)).2, ("law" : Str) ++ ".<locals>." ++ "<lambda>")]
theorem exAt {K : PySem.W.Frag} (h : exB K = true) (i : Nat) {b : Bool} (e : (exL K)[i]? = some b) : b = true := List.all_eq_true.mp h b (List.mem_of_getElem? e)
def txt {w : World} {K : PySem.W.Frag} {h : Heap} {mg : Str → Option Value} (X : K.In h) (G : h.Ns mainGlobals mg) (Y : He.SaysX fas fns [] tfs exB w h K) : Txt K mg :=
  have Y1 : ∀ (i : Nat) {b : Bool}, (exL K)[i]? = some b → b = true := fun i {b} e => exAt Y.more i e
  { a_BadHand := He.ga K "BadHand",
    a_BadLetter := He.ga K "BadLetter",
    a_BadPlan := He.ga K "BadPlan",
    a_BadText := He.ga K "BadText",
    a_BadWord := He.ga K "BadWord",
    a_CallError := He.ga K "CallError",
    a_NoMeeting := He.ga K "NoMeeting",
    e_BadHand := err_at X G (Y.t.d.facts (List.mem_of_getElem? (i := 35) rfl)) (Y.t.d.facts (List.mem_of_getElem? (i := 36) rfl)),
    e_BadPlan := err_at X G (Y.t.d.facts (List.mem_of_getElem? (i := 37) rfl)) (Y.t.d.facts (List.mem_of_getElem? (i := 38) rfl)),
    c_FIGURES := glo_str X G (Y.t.d.facts (List.mem_of_getElem? (i := 39) rfl)),
    c_HANDS := glo_int X G (Y.t.d.facts (List.mem_of_getElem? (i := 40) rfl)),
    c_MOST_BEGIN := glo_int X G (Y.t.d.facts (List.mem_of_getElem? (i := 41) rfl)),
    c_MOST_EVERY := glo_int X G (Y.t.d.facts (List.mem_of_getElem? (i := 42) rfl)),
    c_MOST_GUESTS := glo_int X G (Y.t.d.facts (List.mem_of_getElem? (i := 43) rfl)),
    c_MOST_LONG := glo_int X G (Y.t.d.facts (List.mem_of_getElem? (i := 44) rfl)),
    c_MOST_MANY := glo_int X G (Y.t.d.facts (List.mem_of_getElem? (i := 45) rfl)),
    c_NONE := glo_str X G (Y.t.d.facts (List.mem_of_getElem? (i := 46) rfl)),
    f_ValueError := He.free_ok X G (Y.t.d.facts (List.mem_of_getElem? (i := 20) rfl)),
    f_abs := He.free_ok X G (Y.t.d.facts (List.mem_of_getElem? (i := 21) rfl)),
    f_all := He.free_ok X G (Y.t.d.facts (List.mem_of_getElem? (i := 22) rfl)),
    f_bool := He.free_ok X G (Y.t.d.facts (List.mem_of_getElem? (i := 23) rfl)),
    f_enumerate := He.free_ok X G (Y.t.d.facts (List.mem_of_getElem? (i := 24) rfl)),
    f_int := He.free_ok X G (Y.t.d.facts (List.mem_of_getElem? (i := 25) rfl)),
    f_isinstance := He.free_ok X G (Y.t.d.facts (List.mem_of_getElem? (i := 26) rfl)),
    f_len := He.free_ok X G (Y.t.d.facts (List.mem_of_getElem? (i := 27) rfl)),
    f_list := He.free_ok X G (Y.t.d.facts (List.mem_of_getElem? (i := 28) rfl)),
    f_min := He.free_ok X G (Y.t.d.facts (List.mem_of_getElem? (i := 29) rfl)),
    f_range := He.free_ok X G (Y.t.d.facts (List.mem_of_getElem? (i := 30) rfl)),
    f_set := He.free_ok X G (Y.t.d.facts (List.mem_of_getElem? (i := 31) rfl)),
    f_sorted := He.free_ok X G (Y.t.d.facts (List.mem_of_getElem? (i := 32) rfl)),
    f_str := He.free_ok X G (Y.t.d.facts (List.mem_of_getElem? (i := 33) rfl)),
    f_tuple := He.free_ok X G (Y.t.d.facts (List.mem_of_getElem? (i := 34) rfl)),
    r_E := He.glo_ok X G (Y.t.d.facts (List.mem_of_getElem? (i := 47) rfl)),
    r_BadHand := glo_ref X G (Y.t.d.facts (List.mem_of_getElem? (i := 36) rfl)),
    r_BadPlan := glo_ref X G (Y.t.d.facts (List.mem_of_getElem? (i := 38) rfl)),
    r_BadWord := glo_ref X G (Y.t.d.facts (List.mem_of_getElem? (i := 48) rfl)),
    r_NoMeeting := glo_ref X G (Y.t.d.facts (List.mem_of_getElem? (i := 49) rfl)),
    r_BadLetter := glo_ref X G (Y.t.d.facts (List.mem_of_getElem? (i := 50) rfl)),
    r_BadText := glo_ref X G (Y.t.d.facts (List.mem_of_getElem? (i := 51) rfl)),
    x_hand := excC_of (Y1 0 rfl),
    k_hand := ⟨(of_decide_eq_true (Y1 1 rfl)).trans (by decide), (of_decide_eq_true (Y1 2 rfl)).trans (by decide), (of_decide_eq_true (Y1 3 rfl)).trans (by decide), (of_decide_eq_true (Y1 4 rfl)).trans (by decide), (of_decide_eq_true (Y1 5 rfl)).trans (by decide), (of_decide_eq_true (Y1 6 rfl)).trans (by decide), of_decide_eq_true (Y1 7 rfl), by decide⟩,
    m_hand := He.exm_ok (Y.t.d.facts (List.mem_of_getElem? (i := 52) rfl)),
    x_plan := excC_of (Y1 8 rfl),
    k_plan := ⟨(of_decide_eq_true (Y1 9 rfl)).trans (by decide), (of_decide_eq_true (Y1 10 rfl)).trans (by decide), (of_decide_eq_true (Y1 11 rfl)).trans (by decide), (of_decide_eq_true (Y1 12 rfl)).trans (by decide), (of_decide_eq_true (Y1 13 rfl)).trans (by decide), (of_decide_eq_true (Y1 14 rfl)).trans (by decide), of_decide_eq_true (Y1 15 rfl), by decide⟩,
    m_plan := He.exm_ok (Y.t.d.facts (List.mem_of_getElem? (i := 53) rfl)),
    x_text := excC_of (Y1 16 rfl),
    k_text := ⟨(of_decide_eq_true (Y1 17 rfl)).trans (by decide), (of_decide_eq_true (Y1 18 rfl)).trans (by decide), (of_decide_eq_true (Y1 19 rfl)).trans (by decide), (of_decide_eq_true (Y1 20 rfl)).trans (by decide), (of_decide_eq_true (Y1 21 rfl)).trans (by decide), (of_decide_eq_true (Y1 22 rfl)).trans (by decide), of_decide_eq_true (Y1 23 rfl), by decide⟩,
    xf_text := xfB_ok (Y1 25 rfl),
    row_text := He.noat_ok (Y.t.d.facts (List.mem_of_getElem? (i := 55) rfl)),
    m_text := He.exm_ok (Y.t.d.facts (List.mem_of_getElem? (i := 54) rfl)) }
theorem ends {w : World} {P : Program} {K : PySem.W.Frag} {h base : Heap} {mg : Str → Option Value} (X : K.In h) (G : h.Ns mainGlobals mg) (Y : He.SaysX fas fns [] tfs exB w h K) (TBs : ∀ q ∈ tfs, LamX.TabB base mg (He.cT K q).1 (He.cT K q).2) {fd : FuncData} (Fd : FunD K d_law.name d_law.qual d_law.params d_law.body d_law.scope [] [] (He.ga K "law") fd) : FnOk P w K mg base (L2N.CX P w) 8 (He.ga K "law") fd ["_law_script"] (upF (K, TT K) sdLaw) := by
  let Tx := txt X G Y
  have c := Y.t.d
  have nd : ((TT K).map (·.1)).Nodup := of_decide_eq_true (exAt Y.more 24 rfl)
  obtain ⟨gR, fdR, FR, mR⟩ := ref_at (x := "_law_refused") X G c (d := d_ref) (List.mem_of_getElem? (i := 19) rfl) rfl rfl rfl (List.mem_of_getElem? (i := 19) rfl)
  have BT : RaisesT P w K mg base Tx.a_BadText := raises_at X G c (List.mem_of_getElem? (i := 20) rfl) (exAt Y.more 26 rfl) (exAt Y.more 27 rfl) (List.mem_of_getElem? (i := 55) rfl) (List.mem_of_getElem? (i := 47) rfl) (List.mem_of_getElem? (i := 51) rfl) (List.mem_of_getElem? (i := 56) rfl)
  obtain ⟨aA, fdA, FA, maA⟩ := ref_at (x := "_law_alike") X G c (d := d__law_alike) (List.mem_of_getElem? (i := 11) rfl) rfl rfl rfl (List.mem_of_getElem? (i := 11) rfl)
  have FaA : L2H.FnH P w K mg base (L2N.CX P w) 1 aA fdA ["_law_found", "_law_due"] (upF (K, TT K) sdAlI) := fnH_al Tx.f_isinstance Tx.f_bool Tx.f_int FA (k := 0)
  have baA : Binds K fdA ["_law_found", "_law_due"] [] := FA.bindsN (fun _ _ _ _ _ _ us hl => match us, hl with | [_, _], _ => rfl)
  have kaA := FA.kp
  have F_is_between : Fn P w (K, TT K) mg base "is_between" 1 ["part", "low", "high"] Pl.sd_is_between := mkFn (cv := fun _ => True) X G c (d := d_is_between) (List.mem_of_getElem? (i := 0) rfl) rfl rfl rfl (List.mem_of_getElem? (i := 0) rfl) sc_is_between trivial (by intro ds G R EX h; first | (obtain ⟨_, rfl, _⟩ := h; rfl) | (obtain ⟨_, _, rfl, _⟩ := h; rfl) | (obtain ⟨_, _, _, rfl, _⟩ := h; rfl) | (obtain ⟨_, _, _, _, rfl, _⟩ := h; rfl) | (obtain ⟨_, _, _, _, _, rfl, _⟩ := h; rfl) | (obtain ⟨_, _, _, _, _, _, rfl, _⟩ := h; rfl) | (obtain ⟨rfl, _⟩ := h; rfl)) (bd_is_between Tx ) Pl.pure_is_between (fun _ _ _ _ _ _ us hl => match us, hl with | [_, _, _], _ => rfl)
  have F_is_plan : Fn P w (K, TT K) mg base "is_plan" 2 ["plan"] Pl.sd_is_plan := mkFn (cv := fun _ => True) X G c (d := d_is_plan) (List.mem_of_getElem? (i := 1) rfl) rfl rfl rfl (List.mem_of_getElem? (i := 1) rfl) sc_is_plan trivial (by intro ds G R EX h; first | (obtain ⟨_, rfl, _⟩ := h; rfl) | (obtain ⟨_, _, rfl, _⟩ := h; rfl) | (obtain ⟨_, _, _, rfl, _⟩ := h; rfl) | (obtain ⟨_, _, _, _, rfl, _⟩ := h; rfl) | (obtain ⟨_, _, _, _, _, rfl, _⟩ := h; rfl) | (obtain ⟨_, _, _, _, _, _, rfl, _⟩ := h; rfl) | (obtain ⟨rfl, _⟩ := h; rfl)) (bd_is_plan Tx F_is_between) Pl.pure_is_plan (fun _ _ _ _ _ _ us hl => match us, hl with | [_], _ => rfl)
  have F_need_plan : Fn P w (K, TT K) mg base "need_plan" 3 ["plan"] (Pl.sd_need_plan Tx.a_BadPlan) := mkFn (cv := fun _ => True) X G c (d := d_need_plan) (List.mem_of_getElem? (i := 2) rfl) rfl rfl rfl (List.mem_of_getElem? (i := 2) rfl) sc_need_plan trivial (by intro ds G R EX h; first | (obtain ⟨_, rfl, _⟩ := h; rfl) | (obtain ⟨_, _, rfl, _⟩ := h; rfl) | (obtain ⟨_, _, _, rfl, _⟩ := h; rfl) | (obtain ⟨_, _, _, _, rfl, _⟩ := h; rfl) | (obtain ⟨_, _, _, _, _, rfl, _⟩ := h; rfl) | (obtain ⟨_, _, _, _, _, _, rfl, _⟩ := h; rfl) | (obtain ⟨rfl, _⟩ := h; rfl)) (bd_need_plan Tx F_is_plan) (Pl.pure_need_plan _) (fun _ _ _ _ _ _ us hl => match us, hl with | [_], _ => rfl)
  have F_need_hand : Fn P w (K, TT K) mg base "need_hand" 2 ["number"] (sd_need_hand Tx.a_BadHand) := mkFn (cv := fun _ => True) X G c (d := d_need_hand) (List.mem_of_getElem? (i := 3) rfl) rfl rfl rfl (List.mem_of_getElem? (i := 3) rfl) sc_need_hand trivial (by intro ds G R EX h; first | (obtain ⟨_, rfl, _⟩ := h; rfl) | (obtain ⟨_, _, rfl, _⟩ := h; rfl) | (obtain ⟨_, _, _, rfl, _⟩ := h; rfl) | (obtain ⟨_, _, _, _, rfl, _⟩ := h; rfl) | (obtain ⟨_, _, _, _, _, rfl, _⟩ := h; rfl) | (obtain ⟨_, _, _, _, _, _, rfl, _⟩ := h; rfl) | (obtain ⟨rfl, _⟩ := h; rfl)) (bd_need_hand Tx F_is_between) (pure_need_hand _) (fun _ _ _ _ _ _ us hl => match us, hl with | [_], _ => rfl)
  have F_need_guests : Fn P w (K, TT K) mg base "need_guests" 3 ["guests"] (sd_need_guests Tx.a_BadHand) := mkFn (cv := fun _ => True) X G c (d := d_need_guests) (List.mem_of_getElem? (i := 4) rfl) rfl rfl rfl (List.mem_of_getElem? (i := 4) rfl) sc_need_guests trivial (by intro ds G R EX h; first | (obtain ⟨_, rfl, _⟩ := h; rfl) | (obtain ⟨_, _, rfl, _⟩ := h; rfl) | (obtain ⟨_, _, _, rfl, _⟩ := h; rfl) | (obtain ⟨_, _, _, _, rfl, _⟩ := h; rfl) | (obtain ⟨_, _, _, _, _, rfl, _⟩ := h; rfl) | (obtain ⟨_, _, _, _, _, _, rfl, _⟩ := h; rfl) | (obtain ⟨rfl, _⟩ := h; rfl)) (bd_need_guests Tx F_need_hand) (pure_need_guests _) (fun _ _ _ _ _ _ us hl => match us, hl with | [_], _ => rfl)
  have F_written : Fn P w (K, TT K) mg base "written" 4 ["calls"] (sd_written Tx.a_BadPlan Tx.a_BadHand) := mkFn (cv := fun _ => True) X G c (d := d_written) (List.mem_of_getElem? (i := 5) rfl) rfl rfl rfl (List.mem_of_getElem? (i := 5) rfl) sc_written trivial (by intro ds G R EX h; first | (obtain ⟨_, rfl, _⟩ := h; rfl) | (obtain ⟨_, _, rfl, _⟩ := h; rfl) | (obtain ⟨_, _, _, rfl, _⟩ := h; rfl) | (obtain ⟨_, _, _, _, rfl, _⟩ := h; rfl) | (obtain ⟨_, _, _, _, _, rfl, _⟩ := h; rfl) | (obtain ⟨_, _, _, _, _, _, rfl, _⟩ := h; rfl) | (obtain ⟨rfl, _⟩ := h; rfl)) (bd_written Tx F_need_guests F_need_plan) (pure_written _ _) (fun _ _ _ _ _ _ us hl => match us, hl with | [_], _ => rfl)
  have F_number_of : Fn P w (K, TT K) mg base "number_of" 1 ["word"] sd_number_of := mkFn (cv := fun _ => True) X G c (d := d_number_of) (List.mem_of_getElem? (i := 6) rfl) rfl rfl rfl (List.mem_of_getElem? (i := 6) rfl) sc_number_of trivial (by intro ds G R EX h; first | (obtain ⟨_, rfl, _⟩ := h; rfl) | (obtain ⟨_, _, rfl, _⟩ := h; rfl) | (obtain ⟨_, _, _, rfl, _⟩ := h; rfl) | (obtain ⟨_, _, _, _, rfl, _⟩ := h; rfl) | (obtain ⟨_, _, _, _, _, rfl, _⟩ := h; rfl) | (obtain ⟨_, _, _, _, _, _, rfl, _⟩ := h; rfl) | (obtain ⟨rfl, _⟩ := h; rfl)) (bd_number_of Tx ) pure_number_of (fun _ _ _ _ _ _ us hl => match us, hl with | [_], _ => rfl)
  have F_guests_of : Fn P w (K, TT K) mg base "guests_of" 2 ["word"] sd_guests_of := mkFn (cv := fun _ => True) X G c (d := d_guests_of) (List.mem_of_getElem? (i := 7) rfl) rfl rfl rfl (List.mem_of_getElem? (i := 7) rfl) sc_guests_of trivial (by intro ds G R EX h; first | (obtain ⟨_, rfl, _⟩ := h; rfl) | (obtain ⟨_, _, rfl, _⟩ := h; rfl) | (obtain ⟨_, _, _, rfl, _⟩ := h; rfl) | (obtain ⟨_, _, _, _, rfl, _⟩ := h; rfl) | (obtain ⟨_, _, _, _, _, rfl, _⟩ := h; rfl) | (obtain ⟨_, _, _, _, _, _, rfl, _⟩ := h; rfl) | (obtain ⟨rfl, _⟩ := h; rfl)) (bd_guests_of Tx F_number_of) pure_guests_of (fun _ _ _ _ _ _ us hl => match us, hl with | [_], _ => rfl)
  have F_read : Fn P w (K, TT K) mg base "read" 3 ["text"] (sd_read Tx.a_BadText) := mkFn (cv := fun _ => True) X G c (d := d_read) (List.mem_of_getElem? (i := 8) rfl) rfl rfl rfl (List.mem_of_getElem? (i := 8) rfl) sc_read trivial (by intro ds G R EX h; first | (obtain ⟨_, rfl, _⟩ := h; rfl) | (obtain ⟨_, _, rfl, _⟩ := h; rfl) | (obtain ⟨_, _, _, rfl, _⟩ := h; rfl) | (obtain ⟨_, _, _, _, rfl, _⟩ := h; rfl) | (obtain ⟨_, _, _, _, _, rfl, _⟩ := h; rfl) | (obtain ⟨_, _, _, _, _, _, rfl, _⟩ := h; rfl) | (obtain ⟨rfl, _⟩ := h; rfl)) (bd_read Tx BT F_guests_of F_is_plan F_number_of) (pure_read _) (fun _ _ _ _ _ _ us hl => match us, hl with | [_], _ => rfl)
  have F__law_dice : Fn P w (K, TT K) mg base "_law_dice" 1 ["_law_script", "_law_k"] sd__law_dice := mkFn (cv := fun _ => True) X G c (d := d__law_dice) (List.mem_of_getElem? (i := 9) rfl) rfl rfl rfl (List.mem_of_getElem? (i := 9) rfl) sc__law_dice trivial len_dice (bd__law_dice Tx ) pure_dice (fun _ _ _ _ _ _ us hl => match us, hl with | [_, _], _ => rfl)
  have F__law_off : Fn P w (K, TT K) mg base "_law_off" 1 ["_law_d", "_law_most"] sd__law_off := mkFn (cv := fun _ => True) X G c (d := d__law_off) (List.mem_of_getElem? (i := 10) rfl) rfl rfl rfl (List.mem_of_getElem? (i := 10) rfl) sc__law_off trivial len_off (bd__law_off Tx ) pure_offF (fun _ _ _ _ _ _ us hl => match us, hl with | [_, _], _ => rfl)
  have A__law_alike : ∀ k, Fn P w (K, TT K) mg base "_law_alike" k ["_law_found", "_law_due"] (sd__law_alike k) := fun k => by
    induction k with
    | zero => exact mkFn0 X G c (d := d__law_alike) (List.mem_of_getElem? (i := 11) rfl) rfl rfl rfl (List.mem_of_getElem? (i := 11) rfl) (fun _ _ _ _ h => h) (fun _ _ _ _ _ _ us hl => match us, hl with | [_, _], _ => rfl)
    | succ k ih => exact mkFn (cv := fun _ => True) X G c (d := d__law_alike) (List.mem_of_getElem? (i := 11) rfl) rfl rfl rfl (List.mem_of_getElem? (i := 11) rfl) sc__law_alike trivial (len_alike k) (bd__law_alike Tx ih) (pure_alike k) (fun _ _ _ _ _ _ us hl => match us, hl with | [_, _], _ => rfl)
  have F__law_alike := A__law_alike 6
  have F__law_mixed : Fn P w (K, TT K) mg base "_law_mixed" 2 ["_law_d", "_law_row"] Lw.sd__law_mixed := mkFn (cv := fun _ => True) X G c (d := d__law_mixed) (List.mem_of_getElem? (i := 12) rfl) rfl rfl rfl (List.mem_of_getElem? (i := 12) rfl) sc__law_mixed trivial (by intro ds G R EX h; first | (obtain ⟨_, rfl, _⟩ := h; rfl) | (obtain ⟨_, _, rfl, _⟩ := h; rfl) | (obtain ⟨_, _, _, rfl, _⟩ := h; rfl) | (obtain ⟨_, _, _, _, rfl, _⟩ := h; rfl) | (obtain ⟨_, _, _, _, _, rfl, _⟩ := h; rfl) | (obtain ⟨_, _, _, _, _, _, rfl, _⟩ := h; rfl) | (obtain ⟨rfl, _⟩ := h; rfl)) (bd__law_mixed Tx F__law_off) Lw.pure__law_mixed (fun _ _ _ _ _ _ us hl => match us, hl with | [_, _], _ => rfl)
  have F__law_plan : Fn P w (K, TT K) mg base "_law_plan" 2 ["_law_d"] Lw.sd__law_plan := mkFn (cv := fun _ => True) X G c (d := d__law_plan) (List.mem_of_getElem? (i := 13) rfl) rfl rfl rfl (List.mem_of_getElem? (i := 13) rfl) sc__law_plan trivial (by intro ds G R EX h; first | (obtain ⟨_, rfl, _⟩ := h; rfl) | (obtain ⟨_, _, rfl, _⟩ := h; rfl) | (obtain ⟨_, _, _, rfl, _⟩ := h; rfl) | (obtain ⟨_, _, _, _, rfl, _⟩ := h; rfl) | (obtain ⟨_, _, _, _, _, rfl, _⟩ := h; rfl) | (obtain ⟨_, _, _, _, _, _, rfl, _⟩ := h; rfl) | (obtain ⟨rfl, _⟩ := h; rfl)) (bd__law_plan Tx F__law_off) Lw.pure__law_plan (fun _ _ _ _ _ _ us hl => match us, hl with | [_], _ => rfl)
  have F__law_number : Fn P w (K, TT K) mg base "_law_number" 1 ["_law_word", "_law_low", "_law_high"] sd__law_number := mkFn (cv := fun _ => True) X G c (d := d__law_number) (List.mem_of_getElem? (i := 14) rfl) rfl rfl rfl (List.mem_of_getElem? (i := 14) rfl) sc__law_number trivial (by intro ds G R EX h; first | (obtain ⟨_, rfl, _⟩ := h; rfl) | (obtain ⟨_, _, rfl, _⟩ := h; rfl) | (obtain ⟨_, _, _, rfl, _⟩ := h; rfl) | (obtain ⟨_, _, _, _, rfl, _⟩ := h; rfl) | (obtain ⟨_, _, _, _, _, rfl, _⟩ := h; rfl) | (obtain ⟨_, _, _, _, _, _, rfl, _⟩ := h; rfl) | (obtain ⟨rfl, _⟩ := h; rfl)) (bd__law_number Tx ) pure__law_number (fun _ _ _ _ _ _ us hl => match us, hl with | [_, _, _], _ => rfl)
  have F__law_line : Fn P w (K, TT K) mg base "_law_line" 2 ["_law_line_here"] sd__law_line := mkFn (cv := fun _ => True) X G c (d := d__law_line) (List.mem_of_getElem? (i := 15) rfl) rfl rfl rfl (List.mem_of_getElem? (i := 15) rfl) sc__law_line trivial (by intro ds G R EX h; first | (obtain ⟨_, rfl, _⟩ := h; rfl) | (obtain ⟨_, _, rfl, _⟩ := h; rfl) | (obtain ⟨_, _, _, rfl, _⟩ := h; rfl) | (obtain ⟨_, _, _, _, rfl, _⟩ := h; rfl) | (obtain ⟨_, _, _, _, _, rfl, _⟩ := h; rfl) | (obtain ⟨_, _, _, _, _, _, rfl, _⟩ := h; rfl) | (obtain ⟨rfl, _⟩ := h; rfl)) (bd__law_line Tx F__law_number) pure__law_line (fun _ _ _ _ _ _ us hl => match us, hl with | [_], _ => rfl)
  have F__law_changed : Fn P w (K, TT K) mg base "_law_changed" 2 ["_law_d", "_law_text"] sd__law_changed := mkFn (cv := fun _ => True) X G c (d := d__law_changed) (List.mem_of_getElem? (i := 16) rfl) rfl rfl rfl (List.mem_of_getElem? (i := 16) rfl) sc__law_changed trivial (by intro ds G R EX h; first | (obtain ⟨_, rfl, _⟩ := h; rfl) | (obtain ⟨_, _, rfl, _⟩ := h; rfl) | (obtain ⟨_, _, _, rfl, _⟩ := h; rfl) | (obtain ⟨_, _, _, _, rfl, _⟩ := h; rfl) | (obtain ⟨_, _, _, _, _, rfl, _⟩ := h; rfl) | (obtain ⟨_, _, _, _, _, _, rfl, _⟩ := h; rfl) | (obtain ⟨rfl, _⟩ := h; rfl)) (bd__law_changed Tx F__law_off) pure__law_changed (fun _ _ _ _ _ _ us hl => match us, hl with | [_, _], _ => rfl)
  have F__law_is_right : Fn P w (K, TT K) mg base "_law_is_right" 7 ["_law_text"] sd__law_is_right := mkFn (cv := fun v => v = .ref (He.cT K ("_law_is_right", none)).1) X G c (d := d__law_is_right) (List.mem_of_getElem? (i := 17) rfl) rfl rfl rfl (List.mem_of_getElem? (i := 17) rfl) sc__law_is_right rfl (by intro ds G R EX h; first | (obtain ⟨_, rfl, _⟩ := h; rfl) | (obtain ⟨_, _, rfl, _⟩ := h; rfl) | (obtain ⟨_, _, _, rfl, _⟩ := h; rfl) | (obtain ⟨_, _, _, _, rfl, _⟩ := h; rfl) | (obtain ⟨_, _, _, _, _, rfl, _⟩ := h; rfl) | (obtain ⟨_, _, _, _, _, _, rfl, _⟩ := h; rfl) | (obtain ⟨rfl, _⟩ := h; rfl)) (bd__law_is_right Tx F__law_alike F__law_line F_read FR mR FaA maA kaA baA (TBs _ (List.mem_of_getElem? (i := 0) rfl)) (List.mem_of_getElem? (i := 0) rfl) (hu_of nd (List.mem_of_getElem? (i := 0) rfl))) (pure__law_is_right _ _ Tx.okT) (fun _ _ _ _ _ _ us hl => match us, hl with | [_], _ => rfl)
  have hcode : fd.code = .ref (He.cT K ("law", none)).1 := by
    obtain ⟨fd2, F2, e2⟩ := defAt (d := d_law) c (List.mem_of_getElem? (i := 18) rfl) rfl rfl
    rw [funD_uniq Fd F2]
    exact e2
  exact okF (cv := fun v => v = .ref (He.cT K ("law", none)).1) Fd sc_law hcode len_law (bd_law Tx F__law_alike F__law_changed F__law_dice F__law_is_right F__law_mixed F__law_off F__law_plan F_read F_written FR mR FaA maA kaA baA (TBs _ (List.mem_of_getElem? (i := 1) rfl)) (List.mem_of_getElem? (i := 1) rfl) (hu_of nd (List.mem_of_getElem? (i := 1) rfl))) (pure_law _ _ _ _ Tx.okP Tx.okH Tx.okT)
end K17
open PySem PySem.W PySem.Calls PyProof.Rows
theorem PySem.Challenge.cw_crosscalls_k17_written_and_read_holds : PySem.Challenge.rw_crosscalls_k17_written_and_read.Holds := by
  w_on; o_law
  refine HandSHeadRun.head_any (r := OpenLaw.row PySem.Challenge.rw_crosscalls_k17_written_and_read) (q := view (OpenLaw.row PySem.Challenge.rw_crosscalls_k17_written_and_read).prog [39]) (H := K17.hk) (ob := K17.ob) (M := 20000) (loose := (("CallError" : Str) :: ("BadHand" : Str) :: ("BadPlan" : Str) :: ("BadWord" : Str) :: ("NoMeeting" : Str) :: ("BadLetter" : Str) :: ("BadText" : Str) :: ("HANDS" : Str) :: ("MOST_BEGIN" : Str) :: ("MOST_LONG" : Str) :: ("MOST_EVERY" : Str) :: ("MOST_MANY" : Str) :: ("is_between" : Str) :: ("is_plan" : Str) :: ("need_plan" : Str) :: ("MOST_GUESTS" : Str) :: ("need_hand" : Str) :: ("FIGURES" : Str) :: ("NONE" : Str) :: ("need_guests" : Str) :: ("written" : Str) :: ("number_of" : Str) :: ("guests_of" : Str) :: ("read" : Str) :: ("_law_dice" : Str) :: ("_law_off" : Str) :: ("_law_alike" : Str) :: ("_law_mixed" : Str) :: ("_law_refused" : Str) :: ("_law_plan" : Str) :: ("_law_number" : Str) :: ("_law_line" : Str) :: ("_law_changed" : Str) :: ("_law_is_right" : Str) :: ([] : List Str))) (d := HandSHeadRun.topDef (OpenLaw.row PySem.Challenge.rw_crosscalls_k17_written_and_read).prog 39) (kwd := []) K17.ob_eq
    (by kernel_rfl) (fun s => by kernel_rfl) K17.run (by kernel_rfl) (by kernel_rfl) (by kernel_rfl) (by rfl) (by first | assumption | decide +kernel) (by decide +kernel) ⟨rfl, rfl, rfl, rfl, rfl, by decide +kernel⟩ ?hw ?hc
  case hw => w_witness2
  case hc =>
    refine LamX.walk_ofTsE (l := PySem.Challenge.rw_crosscalls_k17_written_and_read) (n := 63) (k := 8) (x := "_law_script") (CX := fun w => L2N.CX (PySem.Challenge.rw_crosscalls_k17_written_and_read).prog w) rfl (by decide) (by kernel_rfl) ⟨rfl, by decide, by decide⟩ ?F (fun w H s e s' h => Cc.cx_end h)
    intro w mg fa h Y G hmg0
    obtain ⟨K, KX, c⟩ := Y
    have hmg : mg ("law" : PySem.Str) = some (.ref fa) := by
      have e : (HandSHeadRun.topDef (OpenLaw.row PySem.Challenge.rw_crosscalls_k17_written_and_read).prog 39).name = ("law" : PySem.Str) := by kernel_rfl
      rw [← e]
      exact hmg0
    have hT : ∀ p ∈ K17.TT K, ∃ q ∈ K17.tfs, (He.cT K q).2 = p.1 := fun p hp => by
      simp only [K17.TT, List.mem_cons, List.not_mem_nil, or_false] at hp
      rcases hp with hp | hp
      all_goals subst hp
      · exact ⟨_, List.mem_of_getElem? (i := 0) rfl, rfl⟩
      · exact ⟨_, List.mem_of_getElem? (i := 1) rfl, rfl⟩
    exact ⟨K, KX, Cc.law_at (T := K17.TT K) (d := K17.d_law) rfl KX c G hmg (List.mem_of_getElem? (i := 18) rfl) rfl rfl rfl (List.mem_of_getElem? (i := 18) rfl) hT (fun _ _ _ _ _ _ us hl => match us, hl with | [_], _ => rfl) fun base _ _ TBs fd Fd => K17.ends KX G c TBs Fd⟩
