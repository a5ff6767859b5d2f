import PyProof.Rows.All
import Wide.All
import OpenK.AllK
import Wide.FinOn
import HandS.HeadNt
import HandS.HeadHook4
import HandS.HeadWalk
import HandS.EndTab
import HandS.Head0
import HandS.Head1
import HandS.Head2
import KE.KStateDown
import HandS.ForMost
import HandS.ForExc
import HandS.Property
import HandS.ExcInit
import HandS.IsInst
import PyProof.EqAt
import PyProof.EqKinds
import PyProof.TupleCall
import HandS.Deep
import HandS.DictComp
import HandS.Walk
import HandS.Zip
import HandS.TupAny
import HandS.TupMul
import HandS.Strs
import HandS.Defaults
import KE.KDictPairs
import KE.KDictLaws
import HandS.More
import HandS.Style
import HandS.NoneIn
import KE.KDictZip
import HandS.GenBody
import HandS.GenYield
import HandS.GenList
import KE.GoesMore
import KE.GoesEnum
import PyProof.SeqIndex
import HandS.Star
import KE.KDictList
import KE.KDictCopyH
import HandS.OwnEq
import HandS.Sort
import HandS.Finally
import HandS.HotCalls
import KE.KWithOwn
import HandS.Lambda
import HandS.TryOnly
import PySem.Challenge.RW_gridupgrade_k67_whole_histories_of_fleet
/-! ## HA -/
section
set_option Elab.async false
set_option linter.all false
set_option maxRecDepth 100000
set_option maxHeartbeats 0
namespace G3
open PySem PySem.Spec PyProof.Rows L2
abbrev topH (i : Nat) : Stmt := PySem.Challenge.pw_gridupgrade_k67_whole_histories_of_fleet.main.body.getD i (.Pass ⟨0, 0, 0, 0⟩)
/-! ### the head: what is told of the top's end -/
/-- the getter of a class's property -/
def pgA (K : PySem.W.Frag) (C f : Str) : Addr := match PySem.W.recIn K (He.ma K (He.ga K C) f) "property" with
  | some (.ref g :: _) => g
  | _ => 0
def propB (K : PySem.W.Frag) (C f : Str) : Bool := He.eqO (PySem.W.findIn K (.ref (He.ga K C)) f) (some (some (.ref (He.ma K (He.ga K C) f)))) && (He.eqO (PySem.W.specialIn K (.ref (He.ma K (He.ga K C) f)) "__get__") (some (some (.builtin "property.__get__"))) &&
  (decide (PySem.W.takesIn K (.ref (He.ma K (He.ga K C) f)) = some true) && (match PySem.W.recIn K (He.ma K (He.ga K C) f) "property" with
    | some (.ref _ :: _) => true
    | _ => false)))
theorem propB_ok {K : PySem.W.Frag} {C f : Str} (h : propB K C f = true) : PropOf K (He.ga K C) f (He.ma K (He.ga K C) f) (pgA K C f) := by
  obtain ⟨h1, h⟩ := He.ba h
  obtain ⟨h2, h⟩ := He.ba h
  obtain ⟨h3, h4⟩ := He.ba h
  refine ⟨He.eqO_ok h1, He.eqO_ok h2, of_decide_eq_true h3, ?_⟩
  unfold pgA
  cases e : PySem.W.recIn K (He.ma K (He.ga K C) f) "property" with
  | none =>
    rw [e] at h4
    cases h4
  | some l =>
    rw [e] at h4
    cases l with
    | nil => cases h4
    | cons v r =>
      cases v with
      | ref g => exact ⟨r, rfl⟩
      | _ => cases h4
/-- an own exception's class -/
def oexB (K : PySem.W.Frag) (C : Addr) : Bool := match K.lookup C with
  | some ⟨.type "type", _, .cls cd, sl⟩ => (match cd.mro, sl.toList with
    | .ref C' :: bm, [_, _, _, _, some (.builtin n), _] => C' == C && (n == "ValueError.__new__" && (!cd.hasDel && (cd.hasDict && PySem.HandSPX.refsVE bm)))
    | _, _ => false)
  | _ => false
theorem oexB_ok {K : PySem.W.Frag} {C : Addr} (q : oexB K C = true) : ∃ nm q N bs bm sn sub ab col dd k0 k1 k2 k3 k5, K.lookup C = some (excClassObj nm q C N bs bm true sn sub ab col dd k0 k1 k2 k3 k5 "ValueError.__new__") ∧ PySem.HandSPX.refsVE bm = true := by
  unfold oexB at q
  split at q
  · rename_i dd cd sl ho
    split at q
    · rename_i C' bm k0 k1 k2 k3 n k5 hm hs
      simp only [Bool.and_eq_true, beq_iff_eq, Bool.not_eq_true'] at q
      obtain ⟨rfl, rfl, hdel, hdi, hr⟩ := q
      obtain ⟨nm, bs, mro, ns, qn, hd, sn, sub, ab, col, del⟩ := cd
      dsimp only at hm hdel hdi
      subst hm hdel hdi
      have hsl : sl = #[k0, k1, k2, k3, some (.builtin "ValueError.__new__"), k5] := by
        obtain ⟨l⟩ := sl
        simp only at hs
        rw [hs]
      subst hsl
      exact ⟨nm, qn, ns, bs, bm, sn, sub, ab, col, dd, k0, k1, k2, k3, k5, ho, hr⟩
    · cases q
  · cases q
def oexA (K : PySem.W.Frag) (x : Str) : Bool := oexB K (He.ga K x) && (He.eqO (PySem.W.findIn K (.ref (He.ga K x)) "__setattr__") (some (some (.builtin "object.__setattr__"))) && (decide (PySem.W.subIn K (.ref (He.ga K x)) (.type "BaseException") = some true) &&
  (decide (PySem.W.typeIn K (.ref (He.ga K x)) = some (.type "type")) && PySem.W.keepIn K (.ref (He.ga K x)))))
theorem oexA_ok {K : PySem.W.Frag} {x : Str} (h : oexA K x = true) : OexC K (He.ga K x) := by
  obtain ⟨h1, h⟩ := He.ba h
  obtain ⟨h2, h⟩ := He.ba h
  obtain ⟨h3, h⟩ := He.ba h
  obtain ⟨h4, h5⟩ := He.ba h
  exact ⟨oexB_ok h1, He.eqO_ok h2, of_decide_eq_true h3, of_decide_eq_true h4, h5⟩
/-- UpgradeError -/
def ueB (K : PySem.W.Frag) (U : Addr) : Bool := He.eqO (PySem.W.specialIn K (.ref U) "__getattribute__") (some (some (.builtin "type.__getattribute__"))) && (decide (PySem.W.typeIn K (.ref U) = some (.type "type")) && (PySem.W.readsIn K U (.type "type") &&
  (match PySem.W.findCls K (.ref U) (.type "type") "__init__" with
    | some (.val v) => decide (v = .builtin "ValueError.__init__")
    | _ => false)))
def exB (K : PySem.W.Frag) : Bool := propB K "Fleet" "state" && (propB K "Fleet" "made" && (oexA K "Unreachable" && (oexA K "Blocked" && (oexA K "Mixed" && (ueB K (He.ga K "UpgradeError") &&
  (decide (He.ga K "upgrade_upgrades" = He.ga K "upgrade") && (decide (PySem.W.kitOne K (.ref (He.ga K "Fleet")) (.ref (He.ga K "Fleet")) = some true) && (He.eqO (PySem.W.findIn K (.ref (He.ga K "Fleet")) "__class__") (some (some (.builtin "object.__class__"))) && (He.eqO (PySem.W.specialIn K (.builtin "object.__class__") "__get__") (some (some (.builtin "getset_descriptor.__get__"))) &&
  (decide (PySem.W.takesIn K (.builtin "object.__class__") = some true) && decide (PySem.W.mroIn K (He.ga K "Fleet") (.type "object") = some true)))))))))))
/-! ### the Hook: facts, defs by their addresses, tables -/
structure SaysY (fa : List He.Fa) (fn : List He5.DefA) (tf : List He.Defn) (ex : PySem.W.Frag → Bool) (h : Heap) (K : PySem.W.Frag) : Prop where
  a : He5.SaysA fa fn K
  more : ex K = true
  hd : ∀ p ∈ tf, PySem.W.codeHdIn K (He.cT K p).1 (He.cT K p).2 = true
  out : ∀ p ∈ tf, K.lookup (He.cT K p).2 = none
  empty : ∀ p ∈ tf, h.get? (He.cT K p).2 = some { cls := .none, data := .fields #[] }
/-- what a list of names reaches -/
def rootsG (g : Addr → Option Obj) (xs : List Str) : List Addr := match g mainGlobals with
  | some ⟨_, _, .dict es _, _⟩ => es.toList.filterMap fun e => match e.key, e.val with
    | .str x _, .ref a => (match xs.contains x with
      | true => some a
      | false => none)
    | _, _ => none
  | _ => []
def refsN (o : Obj) : List Addr := match o with
  | ⟨.type c, _, .fields _, _⟩ => (match decide (c = "code") with
    | true => []
    | false => He.refsD o)
  | o => He.refsD o
def lay (g : Addr → Option Obj) (as : List Addr) : List Addr := (as.flatMap fun a => match g a with
  | some o => refsN o
  | none => []).eraseDups
/-- a list, made out -/
def frL {α : Type} : List Addr → (List Addr → α) → α
  | [], k => k []
  | a :: r, k => HandSHeadRun.frNat a fun a => frL r fun r => k (a :: r)
theorem frL_eq {α : Type} : ∀ (l : List Addr) (k : List Addr → α), frL l k = k l
  | [], k => rfl
  | a :: r, k => by
    show (HandSHeadRun.frNat a fun a => frL r fun r => k (a :: r)) = _
    rw [HandSHeadRun.frNat_eq, frL_eq r]
def layN {α : Type} (g : Addr → Option Obj) : Nat → List Addr → List Addr → (List Addr → α) → α
  | 0, acc, _, k => k acc
  | n + 1, acc, l, k => frL (lay g l) fun l => layN g n (acc ++ l) l k
def asN {α : Type} (g : Addr → Option Obj) (xs : List Str) (n : Nat) (k : List Addr → α) : α := frL (rootsG g xs) fun l => layN g n (mainGlobals :: PySem.cStatics :: l) l fun as => frL as.eraseDups k
def asP (g : Addr → Option Obj) (xs : List Str) (n : Nat) : List Addr := asN g xs n id
theorem layN_eq {α : Type} {g : Addr → Option Obj} {k : List Addr → α} : ∀ {n : Nat} {acc l : List Addr}, layN g n acc l k = k (layN g n acc l id)
  | 0, _, _ => rfl
  | n + 1, acc, l => by
    show (frL (lay g l) fun l => layN g n (acc ++ l) l k) = k (frL (lay g l) fun l => layN g n (acc ++ l) l id)
    rw [frL_eq, frL_eq]
    exact layN_eq
theorem asN_eq {α : Type} {g : Addr → Option Obj} {xs : List Str} {n : Nat} {k : List Addr → α} : asN g xs n k = k (asP g xs n) := by
  unfold asP asN
  rw [frL_eq, frL_eq, layN_eq, layN_eq (k := fun as => frL as.eraseDups id), frL_eq, frL_eq]
  rfl
/-- the written part, made out -/
def frK {α : Type} (g : Addr → Option Obj) : List Addr → (PySem.W.Frag → α) → α
  | [], k => k []
  | a :: r, k => match g a with
    | none => frK g r k
    | some ⟨c, d, dt, sl⟩ => match He.emptyTab ⟨c, d, dt, sl⟩ with
      | true => frK g r k
      | false => frK g r fun K => k ((a, ⟨c, d, dt, sl⟩) :: K)
theorem frK_eq {α : Type} {g : Addr → Option Obj} : ∀ (as : List Addr) (k : PySem.W.Frag → α), frK g as k = k (He.frT g as)
  | [], k => rfl
  | a :: r, k => by
    show (match g a with
      | none => frK g r k
      | some ⟨c, d, dt, sl⟩ => match He.emptyTab ⟨c, d, dt, sl⟩ with
        | true => frK g r k
        | false => frK g r fun K => k ((a, ⟨c, d, dt, sl⟩) :: K)) = k (((a :: r).filterMap fun a => (g a).map fun o => (a, o)).filter fun q => !He.emptyTab q.2)
    cases e : g a with
    | none =>
      show frK g r k = _
      rw [frK_eq r k, List.filterMap_cons, e]
      rfl
    | some o =>
      obtain ⟨c, d, dt, sl⟩ := o
      show (match He.emptyTab ⟨c, d, dt, sl⟩ with
        | true => frK g r k
        | false => frK g r fun K => k ((a, ⟨c, d, dt, sl⟩) :: K)) = _
      rw [List.filterMap_cons, e]
      show _ = k (((a, (⟨c, d, dt, sl⟩ : Obj)) :: r.filterMap fun a => (g a).map fun o => (a, o)).filter fun q => !He.emptyTab q.2)
      rw [List.filter_cons]
      cases q : He.emptyTab ⟨c, d, dt, sl⟩ with
      | true =>
        show frK g r k = _
        rw [frK_eq r k]
        rfl
      | false =>
        show (frK g r fun K => k ((a, ⟨c, d, dt, sl⟩) :: K)) = _
        rw [frK_eq r]
        rfl
abbrev AlY : Type := He.AlD × Bool
def obsK (fa : List He.Fa) (fn : List He5.DefA) (tf : List He.Defn) (ex : PySem.W.Frag → Bool) (g : Addr → Option Obj) (K : PySem.W.Frag) : AlY := (He5.obsA fa fn K, ex K && He.tabsB g tf K)
def obsY (xs : List Str) (n : Nat) (fa : List He.Fa) (fn : List He5.DefA) (tf : List He.Defn) (ex : PySem.W.Frag → Bool) (g : Addr → Option Obj) : AlY := obsK fa fn tf ex g (He.frT g (asP g xs n))
def obsZ (xs : List Str) (n : Nat) (fa : List He.Fa) (fn : List He5.DefA) (tf : List He.Defn) (ex : PySem.W.Frag → Bool) (g : Addr → Option Obj) : AlY := asN g xs n fun as => frK g as fun K => obsK fa fn tf ex g K
theorem obsZ_eq {xs : List Str} {n : Nat} {fa : List He.Fa} {fn : List He5.DefA} {tf : List He.Defn} {ex : PySem.W.Frag → Bool} {g : Addr → Option Obj} : obsZ xs n fa fn tf ex g = obsY xs n fa fn tf ex g := by
  unfold obsZ obsY
  rw [asN_eq, frK_eq]
def valY (fn : List He5.DefA) : AlY := (He5.valA fn, true)
theorem saysY_of {xs : List Str} {n : Nat} {fa : List He.Fa} {fn : List He5.DefA} {tf : List He.Defn} {ex : PySem.W.Frag → Bool} {h : Heap} (e : obsY xs n fa fn tf ex h.get? = valY fn) : SaysY fa fn tf ex h (He.frT h.get? (asP h.get? xs n)) := by
  have e1 : He5.obsA fa fn (He.frT h.get? (asP h.get? xs n)) = He5.valA fn := congrArg (fun z : AlY => z.1) e
  have e2 : (ex (He.frT h.get? (asP h.get? xs n)) && He.tabsB h.get? tf (He.frT h.get? (asP h.get? xs n))) = true := congrArg (fun z : AlY => z.2) e
  obtain ⟨h1, h2⟩ := He.ba e2
  generalize hK : He.frT h.get? (asP h.get? xs n) = K at e1 h1 h2
  have key : ∀ p ∈ tf, PySem.W.codeHdIn K (He.cT K p).1 (He.cT K p).2 = true ∧ ∃ o, h.get? (He.cT K p).2 = some o ∧ He.emptyTab o = true := fun p hp => by
    obtain ⟨h3, h4⟩ := He.ba (List.all_eq_true.mp h2 p hp)
    refine ⟨h3, ?_⟩
    cases q : h.get? (He.cT K p).2 with
    | none =>
      rw [q] at h4
      cases h4
    | some o =>
      rw [q] at h4
      exact ⟨o, rfl, h4⟩
  refine ⟨e1, h1, fun p hp => (key p hp).1, fun p hp => ?_, fun p hp => ?_⟩
  · obtain ⟨_, o, q, z⟩ := key p hp
    subst hK
    exact He.frT_none q z
  · obtain ⟨_, o, q, z⟩ := key p hp
    rw [q, He.emptyTab_eq z]
def hookY (xs : List Str) (n : Nat) (fa : List He.Fa) (fn : List He5.DefA) (tf : List He.Defn) (ex : PySem.W.Frag → Bool) : PySem.W.Hook where
  α := AlY
  obs := fun s => obsY xs n fa fn tf ex s.heap.get?
  val := fun _ => valY fn
  says := fun _ h => ∃ K : PySem.W.Frag, K.In h ∧ SaysY fa fn tf ex h K
  of := fun _ _ e => ⟨_, He.frT_in, saysY_of e⟩
  keeps := fun _ _ _ ⟨K, hK, c⟩ k => ⟨K, PySem.W.Frag.In.keeps hK k, ⟨c.a, c.more, c.hd, c.out, fun p hp => k _ _ (c.empty p hp)⟩⟩
theorem obsY_eq {xs : List Str} {n : Nat} {fa : List He.Fa} {fn : List He5.DefA} {tf : List He.Defn} {ex : PySem.W.Frag → Bool} {g : Addr → Option Obj} {s : Shared} (h : ∀ a, g a = s.heap.get? a) : obsZ xs n fa fn tf ex g = (hookY xs n fa fn tf ex).obs s := by
  have e : g = s.heap.get? := funext h
  rw [obsZ_eq, e] <;> rfl
def d__law_any : He5.DefA := ⟨fun K => He.ga K "_law_any", "_law_any", "_law_any", defArgs (topH 68), defBody (topH 68), defScope (topH 68), [], []⟩
def d__law_called : He5.DefA := ⟨fun K => He.ga K "_law_called", "_law_called", "_law_called", defArgs (topH 74), defBody (topH 74), defScope (topH 74), [], []⟩
def d__law_caught : He5.DefA := ⟨fun K => He.ga K "_law_caught", "_law_caught", "_law_caught", defArgs (topH 73), defBody (topH 73), defScope (topH 73), [], []⟩
def d__law_chain : He5.DefA := ⟨fun K => He.ga K "_law_chain", "_law_chain", "_law_chain", defArgs (topH 71), defBody (topH 71), defScope (topH 71), [], []⟩
def d__law_deck : He5.DefA := ⟨fun K => He.ga K "_law_deck", "_law_deck", "_law_deck", defArgs (topH 66), defBody (topH 66), defScope (topH 66), [], []⟩
def d__law_draw : He5.DefA := ⟨fun K => He.ga K "_law_draw", "_law_draw", "_law_draw", defArgs (topH 67), defBody (topH 67), defScope (topH 67), [], []⟩
def d__law_moment_right : He5.DefA := ⟨fun K => He.ga K "_law_moment_right", "_law_moment_right", "_law_moment_right", defArgs (topH 75), defBody (topH 75), defScope (topH 75), [], []⟩
def d__law_names : He5.DefA := ⟨fun K => He.ga K "_law_names", "_law_names", "_law_names", defArgs (topH 70), defBody (topH 70), defScope (topH 70), [], []⟩
def d__law_network : He5.DefA := ⟨fun K => He.ga K "_law_network", "_law_network", "_law_network", defArgs (topH 72), defBody (topH 72), defScope (topH 72), [], []⟩
def d__law_right : He5.DefA := ⟨fun K => He.ga K "_law_right", "_law_right", "_law_right", defArgs (topH 76), defBody (topH 76), defScope (topH 76), [], []⟩
def d__law_turned : He5.DefA := ⟨fun K => He.ga K "_law_turned", "_law_turned", "_law_turned", defArgs (topH 69), defBody (topH 69), defScope (topH 69), [], []⟩
def d_adjacent_to : He5.DefA := ⟨fun K => He.ga K "adjacent_to", "adjacent_to", "adjacent_to", defArgs (topH 49), defBody (topH 49), defScope (topH 49), [], []⟩
def d_all_at : He5.DefA := ⟨fun K => He.ga K "all_at", "all_at", "all_at", defArgs (topH 47), defBody (topH 47), defScope (topH 47), [], []⟩
def d_along : He5.DefA := ⟨fun K => He.ga K "along", "along", "along", defArgs (topH 60), defBody (topH 60), defScope (topH 60), [], []⟩
def d_blockers : He5.DefA := ⟨fun K => He.ga K "blockers", "blockers", "blockers", defArgs (topH 38), defBody (topH 38), defScope (topH 38), [], []⟩
def d_changed : He5.DefA := ⟨fun K => He.ga K "changed", "changed", "changed", defArgs (topH 39), defBody (topH 39), defScope (topH 39), [], []⟩
def d_check_release : He5.DefA := ⟨fun K => He.ga K "check_release", "check_release", "check_release", defArgs (topH 14), defBody (topH 14), defScope (topH 14), [], []⟩
def d_check_schedule : He5.DefA := ⟨fun K => He.ga K "check_schedule", "check_schedule", "check_schedule", defArgs (topH 42), defBody (topH 42), defScope (topH 42), [], []⟩
def d_check_service : He5.DefA := ⟨fun K => He.ga K "check_service", "check_service", "check_service", defArgs (topH 23), defBody (topH 23), defScope (topH 23), [], []⟩
def d_check_two_sided : He5.DefA := ⟨fun K => He.ga K "check_two_sided", "check_two_sided", "check_two_sided", defArgs (topH 30), defBody (topH 30), defScope (topH 30), [], []⟩
def d_checked_distance : He5.DefA := ⟨fun K => He.ga K "checked_distance", "checked_distance", "checked_distance", defArgs (topH 56), defBody (topH 56), defScope (topH 56), [], []⟩
def d_conflicts : He5.DefA := ⟨fun K => He.ga K "conflicts", "conflicts", "conflicts", defArgs (topH 35), defBody (topH 35), defScope (topH 35), [], []⟩
def d_cover : He5.DefA := ⟨fun K => He.ga K "cover", "cover", "cover", defArgs (topH 52), defBody (topH 52), defScope (topH 52), [], []⟩
def d_distance : He5.DefA := ⟨fun K => He.ga K "distance", "distance", "distance", defArgs (topH 17), defBody (topH 17), defScope (topH 17), [], []⟩
def d_greatest_apart : He5.DefA := ⟨fun K => He.ga K "greatest_apart", "greatest_apart", "greatest_apart", defArgs (topH 51), defBody (topH 51), defScope (topH 51), [], []⟩
def d_halves : He5.DefA := ⟨fun K => He.ga K "halves", "halves", "halves", defArgs (topH 59), defBody (topH 59), defScope (topH 59), [], []⟩
def d_has_release : He5.DefA := ⟨fun K => He.ga K "has_release", "has_release", "has_release", defArgs (topH 13), defBody (topH 13), defScope (topH 13), [], []⟩
def d_has_service : He5.DefA := ⟨fun K => He.ga K "has_service", "has_service", "has_service", defArgs (topH 21), defBody (topH 21), defScope (topH 21), [], []⟩
def d_in_the_way : He5.DefA := ⟨fun K => He.ga K "in_the_way", "in_the_way", "in_the_way", defArgs (topH 37), defBody (topH 37), defScope (topH 37), [], []⟩
def d_is_replacement : He5.DefA := ⟨fun K => He.ga K "is_replacement", "is_replacement", "is_replacement", defArgs (topH 40), defBody (topH 40), defScope (topH 40), [], []⟩
def d_is_schedule : He5.DefA := ⟨fun K => He.ga K "is_schedule", "is_schedule", "is_schedule", defArgs (topH 41), defBody (topH 41), defScope (topH 41), [], []⟩
def d_is_state : He5.DefA := ⟨fun K => He.ga K "is_state", "is_state", "is_state", defArgs (topH 34), defBody (topH 34), defScope (topH 34), [], []⟩
def d_is_valid : He5.DefA := ⟨fun K => He.ga K "is_valid", "is_valid", "is_valid", defArgs (topH 36), defBody (topH 36), defScope (topH 36), [], []⟩
def d_level_table : He5.DefA := ⟨fun K => He.ga K "level_table", "level_table", "level_table", defArgs (topH 16), defBody (topH 16), defScope (topH 16), [], []⟩
def d_lone : He5.DefA := ⟨fun K => He.ga K "lone", "lone", "lone", defArgs (topH 25), defBody (topH 25), defScope (topH 25), [], []⟩
def d_mates : He5.DefA := ⟨fun K => He.ga K "mates", "mates", "mates", defArgs (topH 15), defBody (topH 15), defScope (topH 15), [], []⟩
def d_names_between : He5.DefA := ⟨fun K => He.ga K "names_between", "names_between", "names_between", defArgs (topH 54), defBody (topH 54), defScope (topH 54), [], []⟩
def d_neighbour_table : He5.DefA := ⟨fun K => He.ga K "neighbour_table", "neighbour_table", "neighbour_table", defArgs (topH 22), defBody (topH 22), defScope (topH 22), [], []⟩
def d_neighbours : He5.DefA := ⟨fun K => He.ga K "neighbours", "neighbours", "neighbours", defArgs (topH 24), defBody (topH 24), defScope (topH 24), [], []⟩
def d_nodes : He5.DefA := ⟨fun K => He.ga K "nodes", "nodes", "nodes", defArgs (topH 46), defBody (topH 46), defScope (topH 46), [], []⟩
def d_odd_cycle : He5.DefA := ⟨fun K => He.ga K "odd_cycle", "odd_cycle", "odd_cycle", defArgs (topH 29), defBody (topH 29), defScope (topH 29), [], []⟩
def d_path : He5.DefA := ⟨fun K => He.ga K "path", "path", "path", defArgs (topH 19), defBody (topH 19), defScope (topH 19), [], []⟩
def d_reachable : He5.DefA := ⟨fun K => He.ga K "reachable", "reachable", "reachable", defArgs (topH 18), defBody (topH 18), defScope (topH 18), [], []⟩
def d_rehearsed : He5.DefA := ⟨fun K => He.ga K "rehearsed", "rehearsed", "rehearsed", defArgs (topH 64), defBody (topH 64), defScope (topH 64), [], []⟩
def d_run : He5.DefA := ⟨fun K => He.ga K "run", "run", "run", defArgs (topH 44), defBody (topH 44), defScope (topH 44), [], []⟩
def d_sides : He5.DefA := ⟨fun K => He.ga K "sides", "sides", "sides", defArgs (topH 31), defBody (topH 31), defScope (topH 31), [], []⟩
def d_trees : He5.DefA := ⟨fun K => He.ga K "trees", "trees", "trees", defArgs (topH 26), defBody (topH 26), defScope (topH 26), [], []⟩
def d_upgrade : He5.DefA := ⟨fun K => He.ga K "upgrade", "upgrade", "upgrade", defArgs (topH 57), defBody (topH 57), defScope (topH 57), [], []⟩
def d_walk : He5.DefA := ⟨fun K => He.ga K "walk", "walk", "walk", defArgs (topH 43), defBody (topH 43), defScope (topH 43), [], []⟩
def d_law : He5.DefA := ⟨fun K => He.ga K "law", "law", "law", defArgs (topH 77), defBody (topH 77), defScope (topH 77), [], []⟩
def d_Blocked___init__ : He5.DefA := ⟨fun K => He.ma K (He.ga K "Blocked") "__init__", "__init__", "Blocked.__init__", defArgs (inClass (topH 8) 0), defBody (inClass (topH 8) 0), defScope (inClass (topH 8) 0), [], []⟩
def d_Fleet___eq__ : He5.DefA := ⟨fun K => He.ma K (He.ga K "Fleet") "__eq__", "__eq__", "Fleet.__eq__", defArgs (inClass (topH 62) 2), defBody (inClass (topH 62) 2), defScope (inClass (topH 62) 2), [], []⟩
def d_Fleet___init__ : He5.DefA := ⟨fun K => He.ma K (He.ga K "Fleet") "__init__", "__init__", "Fleet.__init__", defArgs (inClass (topH 62) 1), defBody (inClass (topH 62) 1), defScope (inClass (topH 62) 1), [], []⟩
def d_Fleet_check_replacement : He5.DefA := ⟨fun K => He.ma K (He.ga K "Fleet") "check_replacement", "check_replacement", "Fleet.check_replacement", defArgs (inClass (topH 62) 10), defBody (inClass (topH 62) 10), defScope (inClass (topH 62) 10), [], []⟩
def d_Fleet_copy : He5.DefA := ⟨fun K => He.ma K (He.ga K "Fleet") "copy", "copy", "Fleet.copy", defArgs (inClass (topH 62) 17), defBody (inClass (topH 62) 17), defScope (inClass (topH 62) 17), [], []⟩
def d_Fleet_log : He5.DefA := ⟨fun K => He.ma K (He.ga K "Fleet") "log", "log", "Fleet.log", defArgs (inClass (topH 62) 8), defBody (inClass (topH 62) 8), defScope (inClass (topH 62) 8), [], []⟩
def d_Fleet_replace : He5.DefA := ⟨fun K => He.ma K (He.ga K "Fleet") "replace", "replace", "Fleet.replace", defArgs (inClass (topH 62) 11), defBody (inClass (topH 62) 11), defScope (inClass (topH 62) 11), [], []⟩
def d_Fleet_schedule_to : He5.DefA := ⟨fun K => He.ma K (He.ga K "Fleet") "schedule_to", "schedule_to", "Fleet.schedule_to", defArgs (inClass (topH 62) 12), defBody (inClass (topH 62) 12), defScope (inClass (topH 62) 12), [], []⟩
def d_Fleet_store : He5.DefA := ⟨fun K => He.ma K (He.ga K "Fleet") "store", "store", "Fleet.store", defArgs (inClass (topH 62) 9), defBody (inClass (topH 62) 9), defScope (inClass (topH 62) 9), [], []⟩
def d_Fleet_tried : He5.DefA := ⟨fun K => He.ma K (He.ga K "Fleet") "tried", "tried", "Fleet.tried", defArgs (inClass (topH 62) 14), defBody (inClass (topH 62) 14), defScope (inClass (topH 62) 14), [], []⟩
def d_Fleet_twin : He5.DefA := ⟨fun K => He.ma K (He.ga K "Fleet") "twin", "twin", "Fleet.twin", defArgs (inClass (topH 62) 16), defBody (inClass (topH 62) 16), defScope (inClass (topH 62) 16), [], []⟩
def d_Fleet_undo : He5.DefA := ⟨fun K => He.ma K (He.ga K "Fleet") "undo", "undo", "Fleet.undo", defArgs (inClass (topH 62) 15), defBody (inClass (topH 62) 15), defScope (inClass (topH 62) 15), [], []⟩
def d_Fleet_upgrade : He5.DefA := ⟨fun K => He.ma K (He.ga K "Fleet") "upgrade", "upgrade", "Fleet.upgrade", defArgs (inClass (topH 62) 13), defBody (inClass (topH 62) 13), defScope (inClass (topH 62) 13), [], []⟩
def d_Mixed___init__ : He5.DefA := ⟨fun K => He.ma K (He.ga K "Mixed") "__init__", "__init__", "Mixed.__init__", defArgs (inClass (topH 9) 0), defBody (inClass (topH 9) 0), defScope (inClass (topH 9) 0), [], []⟩
def d_Pairing___init__ : He5.DefA := ⟨fun K => He.ma K (He.ga K "Pairing") "__init__", "__init__", "Pairing.__init__", defArgs (inClass (topH 50) 0), defBody (inClass (topH 50) 0), defScope (inClass (topH 50) 0), [], []⟩
def d_Pairing_covering : He5.DefA := ⟨fun K => He.ma K (He.ga K "Pairing") "covering", "covering", "Pairing.covering", defArgs (inClass (topH 50) 3), defBody (inClass (topH 50) 3), defScope (inClass (topH 50) 3), [], []⟩
def d_Pairing_met : He5.DefA := ⟨fun K => He.ma K (He.ga K "Pairing") "met", "met", "Pairing.met", defArgs (inClass (topH 50) 2), defBody (inClass (topH 50) 2), defScope (inClass (topH 50) 2), [], []⟩
def d_Pairing_widen : He5.DefA := ⟨fun K => He.ma K (He.ga K "Pairing") "widen", "widen", "Pairing.widen", defArgs (inClass (topH 50) 1), defBody (inClass (topH 50) 1), defScope (inClass (topH 50) 1), [], []⟩
def d_Trial___enter__ : He5.DefA := ⟨fun K => He.ma K (He.ga K "Trial") "__enter__", "__enter__", "Trial.__enter__", defArgs (inClass (topH 63) 1), defBody (inClass (topH 63) 1), defScope (inClass (topH 63) 1), [], []⟩
def d_Trial___exit__ : He5.DefA := ⟨fun K => He.ma K (He.ga K "Trial") "__exit__", "__exit__", "Trial.__exit__", defArgs (inClass (topH 63) 2), defBody (inClass (topH 63) 2), defScope (inClass (topH 63) 2), [], []⟩
def d_Trial___init__ : He5.DefA := ⟨fun K => He.ma K (He.ga K "Trial") "__init__", "__init__", "Trial.__init__", defArgs (inClass (topH 63) 0), defBody (inClass (topH 63) 0), defScope (inClass (topH 63) 0), [], []⟩
def d_Unreachable___init__ : He5.DefA := ⟨fun K => He.ma K (He.ga K "Unreachable") "__init__", "__init__", "Unreachable.__init__", defArgs (inClass (topH 4) 0), defBody (inClass (topH 4) 0), defScope (inClass (topH 4) 0), [], []⟩
def d_Fleet_made : He5.DefA := ⟨fun K => pgA K "Fleet" "made", "made", "Fleet.made", defArgs (inClass (topH 62) 7), defBody (inClass (topH 62) 7), defScope (inClass (topH 62) 7), [], []⟩
def d_Fleet_state : He5.DefA := ⟨fun K => pgA K "Fleet" "state", "state", "Fleet.state", defArgs (inClass (topH 62) 6), defBody (inClass (topH 62) 6), defScope (inClass (topH 62) 6), [], []⟩
def fnL0 : List He5.DefA := [d__law_any, d__law_called, d__law_caught, d__law_chain, d__law_deck, d__law_draw, d__law_moment_right, d__law_names, d__law_network, d__law_right, d__law_turned, d_adjacent_to, d_all_at, d_along, d_blockers, d_changed, d_check_release, d_check_schedule, d_check_service, d_check_two_sided]
def fnL1 : List He5.DefA := [d_checked_distance, d_conflicts, d_cover, d_distance, d_greatest_apart, d_halves, d_has_release, d_has_service, d_in_the_way, d_is_replacement, d_is_schedule, d_is_state, d_is_valid, d_level_table, d_lone, d_mates, d_names_between, d_neighbour_table, d_neighbours, d_nodes]
def fnL2 : List He5.DefA := [d_odd_cycle, d_path, d_reachable, d_rehearsed, d_run, d_sides, d_trees, d_upgrade, d_walk, d_law, d_Blocked___init__, d_Fleet___eq__, d_Fleet___init__, d_Fleet_check_replacement, d_Fleet_copy, d_Fleet_log, d_Fleet_replace, d_Fleet_schedule_to, d_Fleet_store, d_Fleet_tried]
def fnL3 : List He5.DefA := [d_Fleet_twin, d_Fleet_undo, d_Fleet_upgrade, d_Mixed___init__, d_Pairing___init__, d_Pairing_covering, d_Pairing_met, d_Pairing_widen, d_Trial___enter__, d_Trial___exit__, d_Trial___init__, d_Unreachable___init__, d_Fleet_made, d_Fleet_state]
def fnL : List He5.DefA := fnL0 ++ fnL1 ++ fnL2 ++ fnL3
def faL0 : List He.Fa := [.free "isinstance", .free "str", .free "dict", .free "tuple", .free "list", .free "sorted", .free "len", .free "range", .free "enumerate", .free "zip", .free "any", .free "all", .free "min", .free "max", .free "abs", .free "int", .glo "_law_any", .glo "_law_called", .glo "_law_caught", .glo "_law_chain"]
def faL1 : List He.Fa := [.glo "_law_deck", .glo "_law_draw", .glo "_law_moment_right", .glo "_law_names", .glo "_law_network", .glo "_law_right", .glo "_law_turned", .glo "adjacent_to", .glo "all_at", .glo "along", .glo "blockers", .glo "changed", .glo "check_release", .glo "check_schedule", .glo "check_service", .glo "check_two_sided", .glo "checked_distance", .glo "conflicts", .glo "cover", .glo "distance"]
def faL2 : List He.Fa := [.glo "greatest_apart", .glo "halves", .glo "has_release", .glo "has_service", .glo "in_the_way", .glo "is_replacement", .glo "is_schedule", .glo "is_state", .glo "is_valid", .glo "level_table", .glo "lone", .glo "mates", .glo "names_between", .glo "neighbour_table", .glo "neighbours", .glo "nodes", .glo "odd_cycle", .glo "path", .glo "reachable", .glo "rehearsed"]
def faL3 : List He.Fa := [.glo "run", .glo "sides", .glo "trees", .glo "upgrade", .glo "walk", .glo "law", .glo "Fleet", .glo "Pairing", .glo "Trial", .glo "Unreachable", .glo "Blocked", .glo "Mixed", .glo "UpgradeError", .glo "upgrade_upgrades", .cls "Fleet", .cls "Pairing", .cls "Trial", .mkr "Fleet", .mkr "Pairing", .mkr "Trial"]
def faL4 : List He.Fa := [.noat "Fleet" "network_held", .noat "Fleet" "catalog_held", .noat "Fleet" "moment", .noat "Pairing" "some", .noat "Pairing" "beside", .noat "Pairing" "left", .noat "Pairing" "mate_of", .noat "Trial" "fleet_tried", .noat "Trial" "moment_before", .noat "Unreachable" "names", .noat "Blocked" "services", .noat "Mixed" "present", .meth "Blocked" "__init__", .meth "Fleet" "__eq__", .meth "Fleet" "__init__", .meth "Fleet" "check_replacement", .meth "Fleet" "copy", .meth "Fleet" "log", .meth "Fleet" "replace", .meth "Fleet" "schedule_to"]
def faL5 : List He.Fa := [.meth "Fleet" "store", .meth "Fleet" "tried", .meth "Fleet" "twin", .meth "Fleet" "undo", .meth "Fleet" "upgrade", .meth "Mixed" "__init__", .meth "Pairing" "__init__", .meth "Pairing" "covering", .meth "Pairing" "met", .meth "Pairing" "widen", .meth "Trial" "__enter__", .meth "Trial" "__exit__", .meth "Trial" "__init__", .meth "Unreachable" "__init__", .exm "Unreachable" "UpgradeError" true, .exm "Blocked" "UpgradeError" true, .exm "Mixed" "UpgradeError" true, .int "PAIR" 2, .int "MOST_REPLACEMENTS" 400]
def faL : List He.Fa := faL0 ++ faL1 ++ faL2 ++ faL3 ++ faL4 ++ faL5
def rootsL0 : List PySem.Str := ["_law_any", "_law_called", "_law_caught", "_law_chain", "_law_deck", "_law_draw", "_law_moment_right", "_law_names", "_law_network", "_law_right", "_law_turned", "adjacent_to", "all_at", "along", "blockers", "changed", "check_release", "check_schedule", "check_service", "check_two_sided"]
def rootsL1 : List PySem.Str := ["checked_distance", "conflicts", "cover", "distance", "greatest_apart", "halves", "has_release", "has_service", "in_the_way", "is_replacement", "is_schedule", "is_state", "is_valid", "level_table", "lone", "mates", "names_between", "neighbour_table", "neighbours", "nodes"]
def rootsL2 : List PySem.Str := ["odd_cycle", "path", "reachable", "rehearsed", "run", "sides", "trees", "upgrade", "walk", "law", "Fleet", "Pairing", "Trial", "Unreachable", "Blocked", "Mixed", "UpgradeError"]
def rootsL : List PySem.Str := rootsL0 ++ rootsL1 ++ rootsL2
def looseL0 : List PySem.Str := ["UpgradeError", "NoRelease", "NoService", "Unreachable", "NotTwoSided", "BadSchedule", "NotPossible", "Blocked", "Mixed", "NothingToUndo", "PAIR", "has_release", "check_release", "mates", "level_table", "distance"]
def looseL1 : List PySem.Str := ["reachable", "path", "has_service", "neighbour_table", "check_service", "neighbours", "lone", "trees", "way_up", "cycle_between", "odd_cycle", "check_two_sided", "sides", "MOST_REPLACEMENTS", "is_state", "conflicts"]
def looseL2 : List PySem.Str := ["is_valid", "in_the_way", "blockers", "changed", "is_replacement", "is_schedule", "check_schedule", "walk", "run", "nodes", "all_at", "adjacent_to", "Pairing", "greatest_apart", "cover", "names_between"]
def looseL3 : List PySem.Str := ["checked_distance", "upgrade", "upgrade_upgrades", "halves", "along", "Fleet", "Trial", "rehearsed", "_law_deck", "_law_draw", "_law_any", "_law_turned", "_law_names", "_law_chain", "_law_network", "_law_caught"]
def looseL4 : List PySem.Str := ["_law_called", "_law_moment_right", "_law_right"]
def looseL : List PySem.Str := looseL0 ++ looseL1 ++ looseL2 ++ looseL3 ++ looseL4
def tfL : List He.Defn := [("_law_called", none)]
abbrev RowR0 : PySem.W.OpenRow := PySem.W.OpenLaw.row PySem.Challenge.rw_gridupgrade_k67_whole_histories_of_fleet
abbrev hkL : PySem.W.Hook := hookY rootsL 4 faL fnL tfL exB
def obL (s : PySem.W.SharedT) : AlY := obsZ rootsL 4 faL fnL tfL exB (HandSHeadRun.getT s)
theorem obL_eq (s : PySem.W.SharedT) : obL s = hkL.obs s.abs := obsY_eq (HandSHeadRun.getT_eq s)
end G3
end

/-! ## HB -/
section
set_option Elab.async false
set_option linter.all false
set_option maxRecDepth 100000
set_option maxHeartbeats 0
namespace G3
open PySem PySem.Spec PyProof.Rows L2
theorem runL (w : World) : HandSHeadRun.RunEq RowR0 (PySem.W.view RowR0.prog [77]) hkL obL 6000 looseL w := by
  intro os
  kernel_rfl
end G3
end

/-! ## G3Kuhn -/
section
set_option linter.all false
/-! Kuhn's alternating paths: what is dead stays dead. Plain Lean. -/
namespace G3
section
variable {ν : Type} [DecidableEq ν] (nb : ν → List ν) (Lft : ν → Prop)
/-- each right neighbour of Z has its mate in Z -/
def Dead (M : ν → Option ν) (Z : ν → Prop) : Prop := ∀ z, Z z → ∀ y, y ∈ nb z → ∃ x, M y = some x ∧ Z x
def DeadN (M : ν → Option ν) (x : ν) : Prop := ∃ Z, Dead nb M Z ∧ Z x
def mset (M : ν → Option ν) (y x : ν) : ν → Option ν := fun z => if z = y then some x else M z
def Rng (M : ν → Option ν) (x : ν) : Prop := ∃ y, M y = some x
def MOk (M : ν → Option ν) : Prop := ∀ y x, M y = some x → Lft x ∧ y ∈ nb x
structure Win (seen : List ν) (node : ν) (M M' : ν → Option ν) : Prop where
  keep : ∀ y, y ∈ seen → M' y = M y
  hit : ∃ o, o ∉ seen ∧ M' o = some node
  rng : ∀ x, Rng M x → Rng M' x
  dead : ∀ Z, Dead nb M Z → ¬ Z node ∧ ∀ z, Z z → ∀ y, y ∈ nb z → M' y = M y
  ok : MOk nb Lft M → Lft node → MOk nb Lft M'
structure Lose (seen seen' : List ν) (pre : List ν) (M : ν → Option ν) : Prop where
  sub : ∀ y, y ∈ seen → y ∈ seen'
  new : ∀ y, y ∈ seen' → y ∈ seen ∨ ∃ m, M y = some m ∧ ∀ w, w ∈ nb m → w ∈ seen'
  all : ∀ w, w ∈ pre → w ∈ seen'
variable {nb Lft} {M M' : ν → Option ν} {seen seen' pre : List ν} {node o m x : ν}
theorem mset_same : mset M o x o = some x := if_pos rfl
theorem mset_ne {y : ν} (h : y ≠ o) : mset M o x y = M y := if_neg h
theorem mset_ok (h : MOk nb Lft M) (hl : Lft x) (ho : o ∈ nb x) : MOk nb Lft (mset M o x) := fun y z e => by
  by_cases hy : y = o
  · subst hy; rw [mset_same] at e; cases e; exact ⟨hl, ho⟩
  · rw [mset_ne hy] at e; exact h y z e
theorem win_free (sub : ∀ y, y ∈ seen → y ∈ seen') (h1 : o ∉ seen') (h2 : o ∈ nb node) (h3 : M o = none) : Win nb Lft seen node M (mset M o node) where
  keep := fun y hy => mset_ne (fun e : y = o => h1 (by rw [← e]; exact sub y hy))
  hit := ⟨o, fun h => h1 (sub o h), mset_same⟩
  rng := fun z ⟨y, hy⟩ => ⟨y, by rw [mset_ne (fun e : y = o => by rw [e, h3] at hy; cases hy)]; exact hy⟩
  dead := fun Z hZ => by
    have no : ∀ z, Z z → o ∉ nb z := fun z hz ho => by
      obtain ⟨x, hx, _⟩ := hZ z hz o ho
      rw [h3] at hx; cases hx
    exact ⟨fun hn => no node hn h2, fun z hz y hy => mset_ne (fun e : y = o => no z hz (by rw [← e]; exact hy))⟩
  ok := fun h hl => mset_ok h hl h2
theorem win_rec (sub : ∀ y, y ∈ seen → y ∈ seen') (h1 : o ∉ seen') (h2 : o ∈ nb node) (h3 : M o = some m) (w : Win nb Lft (seen' ++ [o]) m M M') : Win nb Lft seen node M (mset M' o node) := by
  have ho : M' o = some m := (w.keep o (by simp)).trans h3
  refine ⟨fun y hy => ?_, ⟨o, fun h => h1 (sub o h), mset_same⟩, fun z hz => ?_, fun Z hZ => ?_, fun h hl => ?_⟩
  · rw [mset_ne (fun e : y = o => h1 (by rw [← e]; exact sub y hy))]
    exact w.keep y (by simp [sub y hy])
  · obtain ⟨y, hy⟩ := w.rng z hz
    by_cases e : y = o
    · subst e
      rw [ho] at hy; cases hy
      obtain ⟨o2, n2, e2⟩ := w.hit
      exact ⟨o2, by rw [mset_ne (fun e : o2 = y => n2 (by simp [e]))]; exact e2⟩
    · exact ⟨y, by rw [mset_ne e]; exact hy⟩
  · obtain ⟨d1, d2⟩ := w.dead Z hZ
    have no : ∀ z, Z z → o ∉ nb z := fun z hz hn => by
      obtain ⟨x, hx, zx⟩ := hZ z hz o hn
      rw [h3] at hx; cases hx
      exact d1 zx
    exact ⟨fun hn => no node hn h2, fun z hz y hy => by rw [mset_ne (fun e : y = o => no z hz (by rw [← e]; exact hy))]; exact d2 z hz y hy⟩
  · exact mset_ok (w.ok h (h o m h3).1) hl h2
/-- behind a won widening all that was done stays done -/
def Proc (nb : ν → List ν) (M : ν → Option ν) (x : ν) : Prop := Rng M x ∨ DeadN nb M x
theorem Win.proc (w : Win nb Lft seen node M M') (h : Proc nb M x) : Proc nb M' x := by
  rcases h with h | ⟨Z, hZ, hx⟩
  · exact .inl (w.rng x h)
  · refine .inr ⟨Z, fun z hz y hy => ?_, hx⟩
    rw [(w.dead Z hZ).2 z hz y hy]
    exact hZ z hz y hy
theorem Win.done (w : Win nb Lft seen node M M') : Proc nb M' node := .inl (let ⟨o, _, h⟩ := w.hit; ⟨o, h⟩)
theorem lose_start : Lose nb seen seen [] M := ⟨fun _ h => h, fun _ h => .inl h, fun _ h => nomatch h⟩
theorem lose_old (l : Lose nb seen seen' pre M) (h : o ∈ seen') : Lose nb seen seen' (pre ++ [o]) M :=
  ⟨l.sub, l.new, fun w hw => by rcases List.mem_append.mp hw with h' | h'; exact l.all w h'; rw [List.mem_singleton.mp h']; exact h⟩
theorem lose_rec {seen2 : List ν} (l : Lose nb seen seen' pre M) (h3 : M o = some m) (k : Lose nb (seen' ++ [o]) seen2 (nb m) M) : Lose nb seen seen2 (pre ++ [o]) M := by
  have up : ∀ y, y ∈ seen' → y ∈ seen2 := fun y hy => k.sub y (by simp [hy])
  refine ⟨fun y hy => up y (l.sub y hy), fun y hy => ?_, fun w hw => ?_⟩
  · rcases k.new y hy with h | h
    · rcases List.mem_append.mp h with h | h
      · rcases l.new y h with h | ⟨m', e, a⟩
        · exact .inl h
        · exact .inr ⟨m', e, fun w hw => up w (a w hw)⟩
      · rw [List.mem_singleton.mp h]
        exact .inr ⟨m, h3, k.all⟩
    · exact .inr h
  · rcases List.mem_append.mp hw with h | h
    · exact up w (l.all w h)
    · rw [List.mem_singleton.mp h]; exact k.sub o (by simp)
theorem Lose.dead (l : Lose nb [] seen' (nb node) M) : DeadN nb M node := by
  refine ⟨fun z => z = node ∨ ∃ y, y ∈ seen' ∧ M y = some z, fun z hz y hy => ?_, .inl rfl⟩
  have hs : y ∈ seen' := by
    rcases hz with e | ⟨w, hw, e⟩
    · rw [e] at hy; exact l.all y hy
    · rcases l.new w hw with h | ⟨m, hm, a⟩
      · cases h
      · rw [e] at hm; cases hm; exact a y hy
  rcases l.new y hs with h | ⟨m, hm, a⟩
  · cases h
  · exact ⟨m, hm, .inr ⟨y, hs, hm⟩⟩
theorem DeadN.step (h : DeadN nb M x) (hy : o ∈ nb x) : ∃ z, M o = some z ∧ DeadN nb M z := by
  obtain ⟨Z, hZ, hx⟩ := h
  obtain ⟨z, e, hz⟩ := hZ x hx o hy
  exact ⟨z, e, Z, hZ, hz⟩
end
end G3
end

/-! ## G3Base -/
section
set_option Elab.async false
set_option linter.all false
set_option maxRecDepth 100000
set_option maxHeartbeats 4000000
/-! Data of tuples over the layer: PyData read at an abstract heap. -/
namespace G3
open PySem PySem.Spec PyProof.Rows L2
abbrev top (i : Nat) : Stmt := PySem.Challenge.pw_gridupgrade_k67_whole_histories_of_fleet.main.body.getD i (.Pass ⟨0, 0, 0, 0⟩)

/-! ### data that stands as tuples -/
mutual
def Is (H : Hp) : PyData → V → Prop
  | .none, v => v = .non
  | .bool b, v => v = .bl b
  | .int i, v => v = .int i
  | .str x, v => v = .str x
  | .tuple l, v => ∃ a xs, v = .ref a ∧ Rd H a (.tup xs) ∧ IsL H l xs
  | .list _, _ => False
  | .dict _, _ => False
def IsL (H : Hp) : List PyData → List V → Prop
  | [], vs => vs = []
  | d :: r, vs => ∃ v vr, vs = v :: vr ∧ Is H d v ∧ IsL H r vr
end
/-- the tuples stay -/
def isSt : HO → Bool
  | .tup _ => true
  | .frz _ _ => true
  | _ => false
def TupS (H H' : Hp) : Prop := ∀ a o, H a = some o → isSt o = true → H' a = some o
theorem _root_.L2.Same.tupS {H H' : Hp} (s : Same H H') : TupS H H' := fun a o e _ => s a o e
theorem rd_tup {H H' : Hp} {a : Addr} {xs : List V} (h : Rd H a (.tup xs)) (k : TupS H H') : Rd H' a (.tup xs) := by
  rcases h with h | ⟨o, h⟩
  · exact .inl (k _ _ h rfl)
  · exact .inr ⟨o, k _ _ h rfl⟩
mutual
theorem Is.mono {H H' : Hp} (k : TupS H H') : ∀ (d : PyData) (v : V), Is H d v → Is H' d v
  | .none, v, h => h
  | .bool b, v, h => h
  | .int i, v, h => h
  | .str x, v, h => h
  | .tuple l, v, h => by
    obtain ⟨a, xs, e1, e2, e3⟩ := h
    exact ⟨a, xs, e1, rd_tup e2 k, IsL.mono k l xs e3⟩
  | .list _, v, h => h.elim
  | .dict _, v, h => h.elim
theorem IsL.mono {H H' : Hp} (k : TupS H H') : ∀ (l : List PyData) (vs : List V), IsL H l vs → IsL H' l vs
  | [], vs, h => h
  | d :: r, vs, h => by
    obtain ⟨v, vr, e1, e2, e3⟩ := h
    exact ⟨v, vr, e1, Is.mono k d v e2, IsL.mono k r vr e3⟩
end
mutual
theorem Is.dp {K : PySem.W.Frag} {H : Hp} : ∀ (d : PyData) (v : V), Is H d v → Dp K H v d
  | .none, v, h => by rw [show v = .non from h]; exact .non
  | .bool b, v, h => by rw [show v = .bl b from h]; exact .bl b
  | .int i, v, h => by rw [show v = .int i from h]; exact .int i
  | .str x, v, h => by rw [show v = .str x from h]; exact .str x
  | .tuple l, v, h => by
    obtain ⟨a, xs, e1, e2, e3⟩ := h
    rw [e1]; exact .tup (.inl e2) (IsL.dp l xs e3)
  | .list _, v, h => h.elim
  | .dict _, v, h => h.elim
theorem IsL.dp {K : PySem.W.Frag} {H : Hp} : ∀ (l : List PyData) (vs : List V), IsL H l vs → DpAll K H vs l
  | [], vs, h => by rw [show vs = [] from h]; exact .nil
  | d :: r, vs, h => by
    obtain ⟨v, vr, e1, e2, e3⟩ := h
    rw [e1]; exact .cons (Is.dp d v e2) (IsL.dp r vr e3)
end
theorem IsL.len {H : Hp} : ∀ {l : List PyData} {vs : List V}, IsL H l vs → vs.length = l.length
  | [], vs, h => by rw [show vs = [] from h]; rfl
  | d :: r, vs, h => by
    obtain ⟨v, vr, e1, e2, e3⟩ := h
    rw [e1, List.length_cons, List.length_cons, IsL.len e3]
theorem IsL.get {H : Hp} : ∀ {l : List PyData} {vs : List V} {i : Nat} {v : V}, IsL H l vs → vs[i]? = some v → ∃ d, l[i]? = some d ∧ Is H d v
  | [], vs, i, v, h, e => by rw [show vs = [] from h] at e; cases e
  | d :: r, vs, i, v, h, e => by
    obtain ⟨w, vr, e1, e2, e3⟩ := h
    rw [e1] at e
    cases i with
    | zero => cases e; exact ⟨d, rfl, e2⟩
    | succ i => exact IsL.get (i := i) e3 (by simpa using e)
theorem IsL.at {H : Hp} : ∀ {l : List PyData} {vs : List V} {i : Nat} {d : PyData}, IsL H l vs → l[i]? = some d → ∃ v, vs[i]? = some v ∧ Is H d v
  | [], vs, i, d, h, e => by cases e
  | d :: r, vs, i, d', h, e => by
    obtain ⟨w, vr, e1, e2, e3⟩ := h
    rw [e1]
    cases i with
    | zero => cases e; exact ⟨w, rfl, e2⟩
    | succ i => exact IsL.at (i := i) e3 (by simpa using e)
theorem IsL.nil {H : Hp} : IsL H [] [] := rfl
theorem IsL.cons {H : Hp} {d : PyData} {l : List PyData} {v : V} {vs : List V} (h : Is H d v) (t : IsL H l vs) : IsL H (d :: l) (v :: vs) := ⟨v, vs, rfl, h, t⟩
theorem IsL.append {H : Hp} : ∀ {l m : List PyData} {vs ws : List V}, IsL H l vs → IsL H m ws → IsL H (l ++ m) (vs ++ ws)
  | [], m, vs, ws, h, t => by rw [show vs = [] from h]; exact t
  | d :: r, m, vs, ws, h, t => by
    obtain ⟨v, vr, e1, e2, e3⟩ := h
    rw [e1]; exact .cons e2 (IsL.append e3 t)
theorem IsL.take {H : Hp} : ∀ {l : List PyData} {vs : List V} (n : Nat), IsL H l vs → IsL H (l.take n) (vs.take n)
  | [], vs, n, h => by rw [show vs = [] from h]; simp; rfl
  | d :: r, vs, 0, h => rfl
  | d :: r, vs, n + 1, h => by
    obtain ⟨v, vr, e1, e2, e3⟩ := h
    rw [e1]; exact .cons e2 (IsL.take n e3)
theorem IsL.drop {H : Hp} : ∀ {l : List PyData} {vs : List V} (n : Nat), IsL H l vs → IsL H (l.drop n) (vs.drop n)
  | [], vs, n, h => by rw [show vs = [] from h]; simp; rfl
  | d :: r, vs, 0, h => h
  | d :: r, vs, n + 1, h => by
    obtain ⟨v, vr, e1, e2, e3⟩ := h
    rw [e1]; exact IsL.drop n e3
theorem IsL.snoc {H : Hp} {d : PyData} {l : List PyData} {v : V} {vs : List V} (t : IsL H l vs) (h : Is H d v) : IsL H (l ++ [d]) (vs ++ [v]) := t.append (.cons h .nil)
/-- all of one list of flat things -/
theorem isL_map {α : Type} {H : Hp} {f : α → PyData} {g : α → V} (fg : ∀ a v, Is H (f a) v ↔ v = g a) : ∀ {l : List α} {vs : List V}, IsL H (l.map f) vs ↔ vs = l.map g
  | [], vs => Iff.rfl
  | a :: l, vs => by
    constructor
    · rintro ⟨v, vr, e1, e2, e3⟩
      rw [e1, (fg a v).mp e2, (isL_map fg).mp e3, List.map_cons]
    · intro e
      exact ⟨g a, l.map g, e, (fg a _).mpr rfl, (isL_map fg).mpr rfl⟩

/-! ### typed data -/
class Enc (α : Type) where
  enc : α → PyData
  ok : α → Prop
  dep : Nat
  lay : ∀ a, ok a → (enc a).canLay0 = true
  depth : ∀ a, (enc a).depth ≤ dep
  eqv : ∀ a b, PyData.eqv (enc a) (enc b) = true ↔ a = b
end G3
end

/-! ## G3Enc -/
section
set_option Elab.async false
set_option linter.all false
set_option maxRecDepth 100000
set_option maxHeartbeats 4000000
namespace G3
open PySem PySem.Spec PyProof.Rows L2
instance : Enc Str := ⟨.str, fun x => PyData.strOk x = true, 0, fun a h => h, fun a => by simp [PyData.depth], fun a b => by simp [PyData.eqv]⟩
instance : Enc Int := ⟨.int, fun _ => True, 0, fun a h => rfl, fun a => by simp [PyData.depth], fun a b => by simp [PyData.eqv]⟩
instance instEncProd {α β : Type} [Enc α] [Enc β] : Enc (α × β) where
  enc := fun p => .tuple [Enc.enc p.1, Enc.enc p.2]
  ok := fun p => Enc.ok p.1 ∧ Enc.ok p.2
  dep := max (Enc.dep α) (Enc.dep β) + 1
  lay := fun p h => by simp [PyData.canLay0, PyData.canLayAll0, Enc.lay _ h.1, Enc.lay _ h.2]
  depth := fun p => by
    have h1 := Enc.depth p.1
    have h2 := Enc.depth p.2
    simp only [PyData.depth, PyData.depthAll]
    omega
  eqv := fun p q => by
    obtain ⟨a, b⟩ := p
    obtain ⟨c, d⟩ := q
    simp only [PyData.eqv, PyData.eqvAll, Bool.and_true, Bool.and_eq_true, Enc.eqv, Prod.mk.injEq]
theorem canAll {α : Type} [Enc α] : ∀ l : List α, (∀ a ∈ l, Enc.ok a) → PyData.canLayAll0 (l.map Enc.enc) = true
  | [], _ => rfl
  | a :: l, h => by
    rw [List.map_cons, PyData.canLayAll0, Enc.lay a (h a (by simp)), canAll l fun b hb => h b (by simp [hb])]
    rfl
theorem canL {α : Type} [Enc α] (l : List α) (h : ∀ a ∈ l, Enc.ok a) : (PyData.list (l.map Enc.enc)).canLay0 = true := by rw [PyData.canLay0]; exact canAll l h
theorem canT {α : Type} [Enc α] (l : List α) (h : ∀ a ∈ l, Enc.ok a) : (PyData.tuple (l.map Enc.enc)).canLay0 = true := by rw [PyData.canLay0]; exact canAll l h
theorem depAll {α : Type} [Enc α] : ∀ l : List α, PyData.depthAll (l.map Enc.enc) ≤ Enc.dep α
  | [] => by simp [PyData.depthAll]
  | a :: l => by
    have h1 := Enc.depth a
    have h2 := depAll l
    rw [List.map_cons, PyData.depthAll]
    omega
theorem eqvAll_iff {α : Type} [Enc α] : ∀ l m : List α, PyData.eqvAll (l.map Enc.enc) (m.map Enc.enc) = true ↔ l = m
  | [], [] => by simp [PyData.eqvAll]
  | [], b :: m => by simp [PyData.eqvAll]
  | a :: l, [] => by simp [PyData.eqvAll]
  | a :: l, b :: m => by
    rw [List.map_cons, List.map_cons, PyData.eqvAll, Bool.and_eq_true, Enc.eqv, eqvAll_iff l m, List.cons.injEq]
instance instEncList {α : Type} [Enc α] : Enc (List α) where
  enc := fun l => .tuple (l.map Enc.enc)
  ok := fun l => ∀ a ∈ l, Enc.ok a
  dep := Enc.dep α + 1
  lay := fun l h => by rw [PyData.canLay0]; exact canAll l h
  depth := fun l => by
    have := depAll l
    simp only [PyData.depth]
    omega
  eqv := fun l m => by rw [PyData.eqv]; exact eqvAll_iff l m

/-- a is what stands at v -/
abbrev At {α : Type} [Enc α] (H : Hp) (a : α) (v : V) : Prop := Is H (Enc.enc a) v
/-- the items of l stand at vs -/
abbrev Al {α : Type} [Enc α] (H : Hp) (l : List α) (vs : List V) : Prop := IsL H (l.map Enc.enc) vs
section
variable {α β : Type} [Enc α] [Enc β] {H H' : Hp} {a : α} {b : β} {l : List α} {v w : V} {vs : List V} {K : PySem.W.Frag}
theorem At.same (h : At H a v) (s : Same H H') : At H' a v := Is.mono s.tupS _ _ h
theorem At.tup (h : At H a v) (s : TupS H H') : At H' a v := Is.mono s _ _ h
theorem Al.same (h : Al H l vs) (s : Same H H') : Al H' l vs := IsL.mono s.tupS _ _ h
theorem Al.tup (h : Al H l vs) (s : TupS H H') : Al H' l vs := IsL.mono s _ _ h
theorem at_str {x : Str} : At H x v ↔ v = .str x := Iff.rfl
theorem at_int {i : Int} : At H i v ↔ v = .int i := Iff.rfl
theorem at_pair : At H (a, b) v ↔ ∃ p x y, v = .ref p ∧ Rd H p (.tup [x, y]) ∧ At H a x ∧ At H b y := by
  constructor
  · rintro ⟨p, xs, e1, e2, x, r, e3, hx, y, r', e4, hy, e5⟩
    rw [show r' = [] from e5] at e4
    rw [e4] at e3
    exact ⟨p, x, y, e1, e3 ▸ e2, hx, hy⟩
  · rintro ⟨p, x, y, e1, e2, hx, hy⟩
    exact ⟨p, [x, y], e1, e2, x, [y], rfl, hx, y, [], rfl, hy, rfl⟩
theorem at_list : At H l v ↔ ∃ p xs, v = .ref p ∧ Rd H p (.tup xs) ∧ Al H l xs := Iff.rfl
theorem Al.len (h : Al H l vs) : vs.length = l.length := by rw [IsL.len h, List.length_map]
theorem Al.get {i : Nat} (h : Al H l vs) (e : vs[i]? = some v) : ∃ a, l[i]? = some a ∧ At H a v := by
  obtain ⟨d, e1, e2⟩ := IsL.get h e
  rw [List.getElem?_map] at e1
  cases q : l[i]? with
  | none => rw [q] at e1; cases e1
  | some a => rw [q] at e1; cases e1; exact ⟨a, rfl, e2⟩
theorem Al.at {i : Nat} (h : Al H l vs) (e : l[i]? = some a) : ∃ v, vs[i]? = some v ∧ At H a v := IsL.at h (by rw [List.getElem?_map, e]; rfl)
theorem Al.snoc (h : Al H l vs) (q : At H a v) : Al H (l ++ [a]) (vs ++ [v]) := by
  show IsL H ((l ++ [a]).map Enc.enc) _
  rw [List.map_append]
  exact IsL.snoc h q
theorem Al.nil : Al H ([] : List α) [] := rfl
theorem Al.cons (q : At H a v) (h : Al H l vs) : Al H (a :: l) (v :: vs) := ⟨v, vs, rfl, q, h⟩
theorem Al.append {m : List α} {ws : List V} (h : Al H l vs) (q : Al H m ws) : Al H (l ++ m) (vs ++ ws) := by
  show IsL H ((l ++ m).map Enc.enc) _
  rw [List.map_append]
  exact IsL.append h q
theorem Al.take (n : Nat) (h : Al H l vs) : Al H (l.take n) (vs.take n) := by
  show IsL H ((l.take n).map Enc.enc) _
  rw [List.map_take]
  exact IsL.take n h
theorem Al.drop (n : Nat) (h : Al H l vs) : Al H (l.drop n) (vs.drop n) := by
  show IsL H ((l.drop n).map Enc.enc) _
  rw [List.map_drop]
  exact IsL.drop n h
theorem al_str {l : List Str} : Al H l vs ↔ vs = l.map V.str := isL_map fun _ _ => Iff.rfl
theorem al_int {l : List Int} : Al H l vs ↔ vs = l.map V.int := isL_map fun _ _ => Iff.rfl
theorem at_strs {l : List Str} : At H l v ↔ ∃ p, v = .ref p ∧ Rd H p (.tup (l.map V.str)) := by
  constructor
  · rintro ⟨p, xs, e1, e2, e3⟩; rw [al_str.mp e3] at e2; exact ⟨p, e1, e2⟩
  · rintro ⟨p, e1, e2⟩; exact ⟨p, _, e1, e2, al_str.mpr rfl⟩
theorem At.sq {l : List α} (h : At H l v) : ∃ p xs, v = .ref p ∧ SqT K H p xs ∧ Al H l xs := by
  obtain ⟨p, xs, e1, e2, e3⟩ := h
  exact ⟨p, xs, e1, .inl e2, e3⟩
theorem At.new {p : Addr} (hp : H p = none) (h : Al H l vs) : At (upd H p (.tup vs)) l (.ref p) :=
  ⟨p, vs, rfl, .inl upd_same, IsL.mono (fun a xs e _ => by rw [upd_ne (ne_of_none e hp)]; exact e) _ _ h⟩
theorem at_new2 {p : Addr} (hp : H p = none) (h1 : At H a v) (h2 : At H b w) : At (upd H p (.tup [v, w])) (a, b) (.ref p) := by
  have k : TupS H (upd H p (.tup [v, w])) := fun a xs e _ => by rw [upd_ne (ne_of_none e hp)]; exact e
  exact at_pair.mpr ⟨p, v, w, rfl, .inl upd_same, h1.tup k, h2.tup k⟩
end
/-! ### heaps -/
theorem _root_.L2.Same.new {H : Hp} {p : Addr} {o : HO} (hp : H p = none) : Same H (upd H p o) := fun b u e => by rw [upd_ne (ne_of_none e hp)]; exact e
theorem _root_.L2.Same.put {H0 H : Hp} {p : Addr} {o : HO} (s : Same H0 H) (hp : H0 p = none) : Same H0 (upd H p o) := fun b u e => by rw [upd_ne (ne_of_none e hp)]; exact s b u e
theorem _root_.L2.Same.snew {H0 H : Hp} {p : Addr} {o : HO} (s : Same H0 H) (hp : H p = none) : Same H0 (upd H p o) := s.put (s.free hp)
theorem TupS.refl {H : Hp} : TupS H H := fun _ _ e _ => e
theorem TupS.trans {H H1 H2 : Hp} (a : TupS H H1) (b : TupS H1 H2) : TupS H H2 := fun p xs e t => b p xs (a p xs e t) t
theorem TupS.put {H : Hp} {p : Addr} {o u : HO} (e : H p = some o) (n : isSt o = false) : TupS H (upd H p u) := fun a x q t => by
  rw [upd_ne (fun z => by rw [z, e] at q; rw [Option.some.inj q, t] at n; cases n)]; exact q
theorem TupS.lst {H : Hp} {p : Addr} {ys : List V} {u : HO} (e : H p = some (.lst ys)) : TupS H (upd H p u) := .put e rfl
theorem TupS.dK {H : Hp} {p : Addr} {ys : List (Key × V)} {u : HO} (e : H p = some (.dK ys)) : TupS H (upd H p u) := .put e rfl
theorem TupS.dT {H : Hp} {p : Addr} {ys : List (List Key × V)} {u : HO} (e : H p = some (.dT ys)) : TupS H (upd H p u) := .put e rfl
theorem TupS.ins {H : Hp} {p C dx : Addr} {fs : List (Str × V)} {u : HO} (e : H p = some (.ins C dx fs)) : TupS H (upd H p u) := .put e rfl

/-! ### rules by typed data -/
section
variable {α β : Type} [Enc α] [Enc β] {H : Hp} {a a' : α} {b : β} {l : List α} {v w : V} {Q : VK} {K : PySem.W.Frag}
theorem shaped_of (h : Enc.ok a) (hd : Enc.dep α ≤ 64) : SeqAt.shaped (Enc.enc a) = true := by
  unfold SeqAt.shaped
  rw [Enc.lay a h, Bool.true_and]
  exact decide_eq_true (Nat.le_trans (Enc.depth a) hd)
theorem eqv_dec [DecidableEq α] : PyData.eqv (Enc.enc a) (Enc.enc a') = decide (a = a') := by
  by_cases e : a = a'
  · rw [decide_eq_true e]; exact (Enc.eqv a a').mpr e
  · rw [decide_eq_false e]
    cases q : PyData.eqv (Enc.enc a) (Enc.enc a') with
    | false => rfl
    | true => exact absurd ((Enc.eqv a a').mp q) e
theorem r_eq [DecidableEq α] (h : At H a v) (h' : At H a' w) (o : Enc.ok a) (o' : Enc.ok a') (q : Q (.bl (decide (a = a'))) H) (hd : Enc.dep α ≤ 64 := by decide) : rEqD K v w H Q :=
  ⟨_, _, Is.dp _ _ h, Is.dp _ _ h', shaped_of o hd, shaped_of o' hd, by rw [eqv_dec]; exact q⟩
theorem r_ne [DecidableEq α] (h : At H a v) (h' : At H a' w) (o : Enc.ok a) (o' : Enc.ok a') (q : Q (.bl (!decide (a = a'))) H) (hd : Enc.dep α ≤ 64 := by decide) : rNeD K v w H Q :=
  ⟨_, _, Is.dp _ _ h, Is.dp _ _ h', shaped_of o hd, shaped_of o' hd, by rw [eqv_dec]; exact q⟩
theorem r_ixT {n : Nat} (h : At H l v) (e : l[n]? = some a) (q : ∀ w, At H a w → Q w H) : rIxT K v (.int n) H Q := by
  obtain ⟨p, xs, e1, e2, e3⟩ := h
  obtain ⟨w, e4, e5⟩ := Al.at (l := l) e3 e
  exact ⟨p, xs, _, w, e1, rfl, .inl e2, atI_nat e4, q w e5⟩
theorem r_p0 (h : At H (a, b) v) (q : ∀ w, At H a w → Q w H) : rIxT K v (.int 0) H Q := by
  obtain ⟨p, x, y, e1, e2, e3, e4⟩ := at_pair.mp h
  exact ⟨p, _, _, x, e1, rfl, .inl e2, atI_nat (j := 0) rfl, q x e3⟩
theorem r_p1 (h : At H (a, b) v) (q : ∀ w, At H b w → Q w H) : rIxT K v (.int 1) H Q := by
  obtain ⟨p, x, y, e1, e2, e3, e4⟩ := at_pair.mp h
  exact ⟨p, _, _, y, e1, rfl, .inl e2, atI_nat (j := 1) rfl, q y e4⟩
theorem r_lenT {C : Int → Prop} (h : At H l v) : LenV K v H l.length := by
  obtain ⟨p, xs, e1, e2, e3⟩ := h
  rw [e1]
  exact .inr ⟨xs, .inl e2, by rw [Al.len (l := l) e3]⟩
end
section
variable {X : Cx}
def SeqE {α : Type} [Enc α] (H : Hp) (l : List α) (y : V) : Prop := (∃ p xs, y = .ref p ∧ Rd H p (.lst xs) ∧ Al H l xs) ∨ At H l y
/-- a in l, data of any depth, l a list or a tuple -/
def rInE (α : Type) [Enc α] [DecidableEq α] (neg : Bool) : R2 := fun x y H Q => ∃ (a : α) (l : List α), At H a x ∧ SeqE H l y ∧ Enc.ok a ∧ (∀ b ∈ l, Enc.ok b) ∧ Enc.dep α ≤ 60 ∧ Q (.bl (if neg then !decide (a ∈ l) else decide (a ∈ l))) H
theorem any_dec {α : Type} [Enc α] [DecidableEq α] (a : α) : ∀ l : List α, (l.map Enc.enc).any (fun z => PyData.eqv z (Enc.enc a)) = decide (a ∈ l)
  | [] => by simp
  | b :: l => by
    rw [List.map_cons, List.any_cons, any_dec a l, eqv_dec]
    by_cases e : b = a
    · subst e; simp
    · have e' : ¬ a = b := fun z => e z.symm
      simp [e, e']
theorem op_inE {α : Type} [Enc α] [DecidableEq α] (hu : X.A.units + 65 < cLine) : OpR X (compareOp .In) (rInE α false) := by
  intro pins s σ H x y v u Q I rx ry h
  obtain ⟨a, l, ha, hl, oa, ol, hd, q⟩ := h
  obtain ⟨as, r1⟩ := Dp.reads I _ x v (Is.dp _ _ ha) rx
  have hr : X.A.units + 1 + min (PyData.depthAll (l.map Enc.enc)) (PyData.depth (Enc.enc a)) < cLine := by
    have := Enc.depth a
    omega
  have q' : Q (.bl ((l.map Enc.enc).any fun z => PyData.eqv z (Enc.enc a))) H := by rw [any_dec]; exact q
  rcases hl with ⟨p, xs, rfl, hp, hx⟩ | ⟨p, xs, rfl, hp, hx⟩
  · obtain ⟨bs, r2⟩ := Dp.reads I (.list (l.map Enc.enc)) _ u (.lst (.inl hp) (IsL.dp _ _ hx)) ry
    exact SeqAt.in_list_reads r2 r1 (canL l ol) (Enc.lay a oa) hr ⟨.bl _, H, I, rfl, q'⟩
  · obtain ⟨bs, r2⟩ := Dp.reads I (.tuple (l.map Enc.enc)) _ u (.tup (.inl hp) (IsL.dp _ _ hx)) ry
    exact SeqAt.in_tuple_reads r2 r1 (canT l ol) (Enc.lay a oa) hr ⟨.bl _, H, I, rfl, q'⟩
theorem op_notInE {α : Type} [Enc α] [DecidableEq α] (hu : X.A.units + 65 < cLine) : OpR X (compareOp .NotIn) (rInE α true) := by
  intro pins s σ H x y v u Q I rx ry h
  obtain ⟨a, l, ha, hl, oa, ol, hd, q⟩ := h
  obtain ⟨as, r1⟩ := Dp.reads I _ x v (Is.dp _ _ ha) rx
  have hr : X.A.units + 1 + min (PyData.depthAll (l.map Enc.enc)) (PyData.depth (Enc.enc a)) < cLine := by
    have := Enc.depth a
    omega
  have q' : Q (.bl (!(l.map Enc.enc).any fun z => PyData.eqv z (Enc.enc a))) H := by rw [any_dec]; exact q
  rcases hl with ⟨p, xs, rfl, hp, hx⟩ | ⟨p, xs, rfl, hp, hx⟩
  · obtain ⟨bs, r2⟩ := Dp.reads I (.list (l.map Enc.enc)) _ u (.lst (.inl hp) (IsL.dp _ _ hx)) ry
    exact SeqAt.notIn_list_reads r2 r1 (canL l ol) (Enc.lay a oa) hr ⟨.bl _, H, I, rfl, q'⟩
  · obtain ⟨bs, r2⟩ := Dp.reads I (.tuple (l.map Enc.enc)) _ u (.tup (.inl hp) (IsL.dp _ _ hx)) ry
    exact SeqAt.notIn_tuple_reads r2 r1 (canT l ol) (Enc.lay a oa) hr ⟨.bl _, H, I, rfl, q'⟩
end

/-! ### defs by name -/
section
variable (P : Program) (w : World) (K : PySem.W.Frag) (mg : Str → Option Value) (base : Heap)
/-- the global def x keeps the promise sp at the level k -/
def Df (CX : CXT) (k : Nat) (x : Str) (ps : List Str) (sp : Sp) : Prop :=
  ∃ f fd, mg x = some (.ref f) ∧ PySem.W.keepIn K (.ref f) = true ∧ Binds K fd ps [] ∧ FnOk P w K mg base CX k f fd ps sp
/-- the method m of the class at C keeps the promise sp -/
def Mf (CX : CXT) (k : Nat) (C : Addr) (m : Str) (ps : List Str) (sp : Sp) : Prop :=
  ∃ f fd, Meth K C m f ∧ Binds K fd ps [] ∧ FnOk P w K mg base CX k f fd ps sp
/-- the def stands as its text has it -/
def St0 (x : Str) (st : Stmt) : Prop := ∃ f fd, mg x = some (.ref f) ∧ FunD K x x (defArgs st) (defBody st) (defScope st) [] [] f fd
end
section
variable {P : Program} {w : World} {K : PySem.W.Frag} {mg : Str → Option Value} {base : Heap} {CX : CXT} {k : Nat} {x : Str} {N ps : List Str} {sp : Sp} {st : Stmt}
theorem St0.ok (F : St0 K mg x st) (S : FnScope N ps (defScope st)) (len : ∀ vs H Q E, sp vs H Q E → vs.length = ps.length)
    (hb : ∀ (kV doc pm : Value) (an : Option Addr) (cdv ct : Value) (us : List Value), us.length = ps.length → bindArgs (PySem.W.fnOf x x (defArgs st) (defBody st) (defScope st) .none kV doc pm an cdv ct) ⟨us, []⟩ = pure (ps.zip us))
    (hbody : ∀ (f : Addr) (cdv : Value) (A : Around) (outer : List Env) (s : Shared) (H : Hp) (vs : List V) (Q : VK) (E : XK), Room k (A.deeper (envOfC x (defScope st) s.heap.objs.size f cdv)) → sp vs H Q E →
      ∃ t, PSs (cxOf CX P w K mg base N x (defScope st) f cdv A outer s H E) (defBody st) t ∧ t { nx := fun _ H' => Q .non H', rt := Q } (start N vs) H) : Df P w K mg base CX (k + 1) x ps sp := by
  obtain ⟨f, fd, hm, F⟩ := F
  exact ⟨f, fd, hm, F.kp, F.bindsN hb, F.ok S len fun cdv A outer s H vs Q E hr h => hbody f cdv A outer s H vs Q E hr h⟩
/-- .. where nothing is raised -/
theorem St0.ok0 (F : St0 K mg x st) (S : FnScope N ps (defScope st)) (len : ∀ vs H Q E, sp vs H Q E → vs.length = ps.length)
    (hb : ∀ (kV doc pm : Value) (an : Option Addr) (cdv ct : Value) (us : List Value), us.length = ps.length → bindArgs (PySem.W.fnOf x x (defArgs st) (defBody st) (defScope st) .none kV doc pm an cdv ct) ⟨us, []⟩ = pure (ps.zip us))
    (hbody : ∀ (f : Addr) (cdv : Value) (A : Around) (outer : List Env) (s : Shared) (H : Hp) (vs : List V) (Q : VK) (E : XK), Room k (A.deeper (envOfC x (defScope st) s.heap.objs.size f cdv)) → sp vs H Q E →
      ∃ t, PSs (cxOf CX0 P w K mg base N x (defScope st) f cdv A outer s H E).nox (defBody st) t ∧ t { nx := fun _ H' => Q .non H', rt := Q } (start N vs) H) : Df P w K mg base CX0 (k + 1) x ps sp :=
  F.ok S len hb fun f cdv A outer s H vs Q E hr h => by
    obtain ⟨t, h1, h2⟩ := hbody f cdv A outer s H vs Q E hr h
    exact ⟨t, h1.nox, h2⟩
end
section
variable {X : Cx} {CX : CXT} {j k : Nat} {sp : Sp} {E : XK} {x m : Str} {ps : List Str} {p pos apos : Pos} {e o : Expr} {es : List Expr} {ta : TE} {t : TA} {C : Addr}
theorem pe_df (G : Df X.prog X.w X.K X.mg X.base CX j x ps sp) (hr : Room k X.A) (hx : Passes CX X E) (ha : PA X (e :: es) t) (hj : j ≤ k := by decide) (hg : Gl X x := by rfl) (hdb : (x == ("__debug__" : Str)) = false := by decide)
    (he : starEach (e :: es) X.env = (false, eval e X.env) :: starEach es X.env := by rfl) (hpl : (backTo pos (starEach es X.env)).any (·.1) = false := by rfl) : PE X (.Call (.Name x p) (e :: es) [] pos) (tCall sp [] E t) := by
  obtain ⟨f, fd, hm, hk, hb, F⟩ := G
  exact pe_call F (hr.mono hj) hg hm hk hb .nil hx ha hdb he hpl
end
end G3
end

/-! ## G3Dict -/
section
set_option Elab.async false
set_option linter.all false
set_option maxRecDepth 100000
set_option maxHeartbeats 4000000
/-! dict(..) of a tuple of pairs that stands as a known object. -/
namespace G3
open PySem PySem.Spec PyProof.Rows L2
def refOf (its : List Value) (j : Nat) : Addr := match its[j]? with
  | some (.ref a) => a
  | _ => 0
def PairT (H : Hp) (x : V) (kv : Key × V) : Prop := ∃ p, x = .ref p ∧ Rd H p (.tup [kV kv.1, kv.2])
section
variable {X : Cx} {pins : List (Addr × Obj)} {σ : L2.St} {H : Hp} {s : Shared}
theorem pairs_val (I : Inv X pins σ H s) : ∀ {xs : List V} {kvs : List (Key × V)} {its : List Value}, Paired (PairT H) xs kvs → Vals xs its →
    ∃ (prs : List (Key × Value)) (ps : List (Value × Value)), KV kvs prs ∧ prs.length = xs.length ∧ ps.length = xs.length ∧
      ∀ j k v, ps[j]? = some (k, v) → its[j]? = some (.ref (refOf its j)) ∧ PairAt s.heap (refOf its j) k v ∧ ∃ key, prs[j]? = some (key, v) ∧ keyIs key k = true
  | _, _, _, .nil, r => ⟨[], [], .nil, rfl, rfl, fun j k v e => by simp at e⟩
  | _, _, _, .cons (b := kv) h t, r => by
    cases r with
    | cons rx rt =>
      obtain ⟨p, rfl, hp⟩ := h
      cases rx
      obtain ⟨prs, ps, q1, q2, q3, q4⟩ := pairs_val I t rt
      obtain ⟨its2, rv, ht, _⟩ := I.tuple (.inl hp)
      obtain ⟨u, y, ei, ru, ry⟩ := vals2 rv
      subst ei
      refine ⟨(kv.1, y) :: prs, (u, y) :: ps, .cons ⟨rfl, ry⟩ q1, by simp [q2], by simp [q3], fun j k v e => ?_⟩
      cases j with
      | zero =>
        have e' := Option.some.inj e
        cases e'
        obtain ⟨o, h1, h2, h3⟩ := ht
        exact ⟨rfl, .inl ⟨o, h1, h2, h3⟩, kv.1, rfl, kV_is (P := X.prog) (w := X.w) ru⟩
      | succ j => exact q4 j k v (by simpa using e)
end
def rDictF : List V → Hp → VK → Prop := fun vs H Q => ∃ a o xs kvs, vs = [.ref a] ∧ H a = some (.frz o (.tup xs)) ∧ o.dict = none ∧ Paired (PairT H) xs kvs ∧ ∀ p, H p = none → Q (.ref p) (upd H p (.dK (mergeK [] kvs)))
section
variable {X : Cx}
theorem call_dictF (hcalm : X.calm = true) : CallR X (.type "dict") rDictF := by
  intro pins s σ H xs us Q I r q
  obtain ⟨a, o, ys, kvs, rfl, hq, hd, hp, q⟩ := q
  obtain ⟨u, rfl, rx⟩ := vals1 r
  cases rx
  obtain ⟨e0, hz, its, rv, ht⟩ := I.hok a _ hq
  obtain ⟨prs, ps, k1, k2, k3, k4⟩ := pairs_val I hp rv
  obtain ⟨o2, e1, hc, n, hdat⟩ := ht
  have eo : o = o2 := Option.some.inj (e0.symm.trans e1)
  subst eo
  have li := rv.length
  refine PySem.call_dict_pairs (knd := mixKind X.prog X.w) (kvs := prs) (PairArg.tuple a its.toArray (refOf its) ps) (I.ok.hd hcalm)
    ⟨⟨o, n, e1, hc, hd, hdat⟩, by simp [k3, li], fun j k v e => ?_⟩ ⟨by rw [k2, k3], fun j k v e => ?_⟩ (by rw [k3]; exact hz) fun h' tk hd' k => ?_
  · obtain ⟨z1, z2, _⟩ := k4 j k v e
    exact ⟨by simpa using z1, z2⟩
  · obtain ⟨_, _, key, z1, z2⟩ := k4 j k v e
    exact ⟨key, z1, z2⟩
  · have hm : (s.heap.objs.size == sysModules) = false := beq_eq_false_iff_ne.mpr (Nat.ne_of_gt I.big)
    have hlen : (mergeK [] kvs).length ≤ sizeLine := by
      refine Nat.le_trans (length_mergeK kvs []) ?_
      rw [List.length_nil, Nat.zero_add, k1.length, k2]
      exact hz
    exact ⟨.ref s.heap.objs.size, upd H s.heap.objs.size (.dK (mergeK [] kvs)), I.laid (t' := tk) (fun b o e => k b o (by simp) e) (Nat.le_refl _) (show ObjOk X.prog X.w _ _ _ (.dK (mergeK [] kvs)) from ⟨hlen, hm, merged [] prs, KV.merge k1 .nil, hd'⟩), rfl, q _ (I.hok.fresh (Nat.le_refl _))⟩
end
/-- d.update(a dict) -/
def rUpdate : V → List V → Hp → VK → Prop := fun x vs H Q => ∃ d b kvs more, x = .ref d ∧ vs = [.ref b] ∧ H d = some (.dK kvs) ∧ H b = some (.dK more) ∧ d ≠ b ∧ kvs.length + more.length ≤ sizeLine ∧ Q .non (upd H d (.dK (mergeK kvs more)))
section
variable {X : Cx}
theorem mt_update : MtR X "dict.update" rUpdate := by
  intro pins s σ H x vs v us Q I rx rv h
  obtain ⟨d, b, kvs, more, rfl, rfl, hd, hb, hne, hsz, q⟩ := h
  cases rx
  obtain ⟨u, rfl, ru⟩ := rv.one
  cases ru
  obtain ⟨z1, m1, vs1, k1, d1⟩ := dk_of I.hok hd
  obtain ⟨z2, m2, vs2, k2, d2⟩ := dk_of I.hok hb
  refine call_meetsIn PySem.F.slot_dict_update d1.typeIs PySem.F.entry_dict_update (PySem.F.args_dict_update_2 _ _) (meets_dict_update (mixKind X.prog X.w) d b hne m2)
    ⟨vs1, vs2, d1, d2, (by rw [← k1.length, ← k2.length]; exact hsz), fun h' dd _ hs => ?_⟩
  have hz : (mergeK kvs more).length ≤ sizeLine := Nat.le_trans (length_mergeK more kvs) hsz
  have he : ∃ q, h'.get? d = some q := let ⟨q, _, _, hq, _⟩ := dd; ⟨q, hq⟩
  exact ⟨.non, _, d_write I (by rw [hd]; exact True.intro) hs he (dk_new hz m1 (KV.merge k2 k1) dd), rfl, q⟩
end
end G3
end

/-! ## G3Cat0 -/
section
set_option Elab.async false
set_option linter.all false
set_option maxRecDepth 100000
set_option maxHeartbeats 4000000
namespace G3
open PySem PySem.Spec PyProof.Rows L2
/-- the built-in names are nobody's own -/
structure Bt (mg : Str → Option Value) : Prop where
  isinstance : mg "isinstance" = none
  str : mg "str" = none
  dict : mg "dict" = none
  tuple : mg "tuple" = none
  list : mg "list" = none
  sorted : mg "sorted" = none
  len : mg "len" = none
  range : mg "range" = none
  enumerate : mg "enumerate" = none
  zip : mg "zip" = none
  any : mg "any" = none
  all : mg "all" = none
  min : mg "min" = none
  max : mg "max" = none
  abs : mg "abs" = none
  int : mg "int" = none
/-! ### dicts with text keys -/
def gv {κ β : Type} [DecidableEq κ] (l : List (κ × β)) (k : κ) : Option β := (l.find? fun p => decide (p.1 = k)).map (·.2)
section
variable {κ β : Type} [DecidableEq κ]
theorem gv_nil {k : κ} : gv ([] : List (κ × β)) k = none := rfl
theorem gv_cons (p : κ × β) (l : List (κ × β)) (k : κ) : gv (p :: l) k = if p.1 = k then some p.2 else gv l k := by
  unfold gv
  rw [List.find?_cons]
  by_cases h : p.1 = k
  · rw [if_pos h, decide_eq_true h]; rfl
  · rw [if_neg h, decide_eq_false h]
theorem gv_some {l : List (κ × β)} {k : κ} {b : β} (h : gv l k = some b) : (k, b) ∈ l := by
  induction l with
  | nil => cases h
  | cons p l ih =>
    rw [gv_cons] at h
    by_cases e : p.1 = k
    · rw [if_pos e] at h
      cases h
      subst e
      exact List.mem_cons_self
    · rw [if_neg e] at h
      exact List.mem_cons_of_mem _ (ih h)
theorem gv_none {l : List (κ × β)} {k : κ} : gv l k = none ↔ k ∉ l.map (·.1) := by
  induction l with
  | nil => simp [gv]
  | cons p l ih =>
    rw [gv_cons, List.map_cons, List.mem_cons, not_or, ← ih]
    by_cases e : p.1 = k
    · rw [if_pos e]; exact ⟨fun h => (by cases h), fun h => absurd e.symm h.1⟩
    · rw [if_neg e]; exact ⟨fun h => ⟨fun z => e z.symm, h⟩, fun h => h.2⟩
theorem gv_isSome {l : List (κ × β)} {k : κ} : (gv l k).isSome = decide (k ∈ l.map (·.1)) := by
  by_cases h : k ∈ l.map (·.1)
  · rw [decide_eq_true h]
    cases e : gv l k with
    | none => exact absurd h (gv_none.mp e)
    | some b => rfl
  · rw [decide_eq_false h, gv_none.mpr h]; rfl
theorem gv_mem {l : List (κ × β)} {k : κ} {b : β} (nd : (l.map (·.1)).Nodup) (h : (k, b) ∈ l) : gv l k = some b := by
  induction l with
  | nil => cases h
  | cons p l ih =>
    rw [gv_cons]
    rw [List.map_cons, List.nodup_cons] at nd
    rcases List.mem_cons.mp h with e | h
    · rw [← e, if_pos rfl]
    · rw [if_neg (fun e => nd.1 (by rw [e]; exact List.mem_map.mpr ⟨_, h, rfl⟩))]
      exact ih nd.2 h
end
theorem valV_gv (l : List (Key × V)) (k : Key) : valV l k = gv l k := rfl
/-- merging pairs of different keys -/
theorem merge_nd : ∀ (more kvs : List (Key × V)), ((kvs ++ more).map (·.1)).Nodup → mergeK kvs more = kvs ++ more
  | [], kvs, _ => by unfold mergeK; simp
  | p :: more, kvs, nd => by
    have h1 : valV kvs p.1 = none := by
      rw [valV_gv, gv_none]
      intro h
      rw [List.map_append, List.nodup_append] at nd
      exact nd.2.2 _ h _ (by simp) rfl
    have e : putK kvs p.1 p.2 = kvs ++ [p] := putK_new p.2 h1
    show mergeK (putK kvs p.1 p.2) more = _
    rw [e, merge_nd more (kvs ++ [p]) (by simpa using nd)]
    simp
/-! ### catalogs -/
abbrev Cat := List (Str × List Int)
structure CatOk (c : Cat) : Prop where
  nd : (c.map (·.1)).Nodup
  ok : ∀ p ∈ c, Enc.ok p
  ne : ∀ p ∈ c, p.2 ≠ []
  len : c.length ≤ 12
  lens : ∀ p ∈ c, p.2.length < sizeLine
def CatAt (H : Hp) (c : Cat) (v : V) : Prop := ∃ a o xs, v = .ref a ∧ H a = some (.frz o (.tup xs)) ∧ o.dict = none ∧ Al H c xs
theorem CatAt.tup {H H' : Hp} {c : Cat} {v : V} (h : CatAt H c v) (k : TupS H H') : CatAt H' c v := by
  obtain ⟨a, o, xs, e1, e2, e3, e4⟩ := h
  exact ⟨a, o, xs, e1, k _ _ e2 rfl, e3, e4.tup k⟩
theorem CatAt.same {H H' : Hp} {c : Cat} {v : V} (h : CatAt H c v) (k : Same H H') : CatAt H' c v := h.tup k.tupS
def catK (c : Cat) (vs : List V) : List (Key × V) := (c.map fun p => (Sum.inr p.1 : Key)).zip vs
/-- the pairs of a catalog -/
theorem cat_pairs {H : Hp} : ∀ {c : Cat} {xs : List V}, Al H c xs → ∃ vs, Paired (PairT H) xs (catK c vs) ∧ Al H (c.map (·.2)) vs
  | [], xs, h => by
    rw [show xs = [] from h]
    exact ⟨[], .nil, .nil⟩
  | p :: c, xs, h => by
    obtain ⟨v, vr, rfl, h1, h2⟩ := h
    obtain ⟨vs, k1, k2⟩ := cat_pairs h2
    obtain ⟨q, x, y, rfl, hq, hx, hy⟩ := at_pair.mp (show At H (p.1, p.2) v from h1)
    rw [at_str.mp hx] at hq
    exact ⟨y :: vs, .cons ⟨q, rfl, hq⟩ k1, .cons hy k2⟩
theorem catK_keys {c : Cat} {vs : List V} (h : vs.length = c.length) : (catK c vs).map (·.1) = c.map fun p => (Sum.inr p.1 : Key) := by
  unfold catK
  rw [List.map_fst_zip]
  rw [List.length_map]; omega
theorem nodup_inr {l : List Str} (h : l.Nodup) : (l.map fun x => (Sum.inr x : Key)).Nodup := by
  refine List.Pairwise.map _ (fun a b ne e => ne ?_) h
  exact Sum.inr.inj e
theorem catK_get {H : Hp} : ∀ {c : Cat} {vs : List V} (x : Str), Al H (c.map (·.2)) vs → (∀ b, gv c x = some b → ∃ v, valV (catK c vs) (.inr x) = some v ∧ At H b v) ∧ (gv c x = none → valV (catK c vs) (.inr x) = none)
  | [], vs, x, h => ⟨fun b e => (by cases e), fun _ => rfl⟩
  | p :: c, vs, x, h => by
    obtain ⟨v, vr, rfl, h1, h2⟩ := h
    obtain ⟨k1, k2⟩ := catK_get x h2
    have e0 : catK (p :: c) (v :: vr) = (Sum.inr p.1, v) :: catK c vr := rfl
    have e1 : valV (catK (p :: c) (v :: vr)) (.inr x) = if p.1 = x then some v else valV (catK c vr) (.inr x) := by
      rw [e0, valV_gv, gv_cons]
      by_cases e : p.1 = x
      · rw [if_pos e, if_pos (by rw [e])]
      · rw [if_neg e, if_neg (fun z => e (Sum.inr.inj z))]; rfl
    rw [e1, gv_cons]
    by_cases e : p.1 = x
    · rw [if_pos e, if_pos e]
      exact ⟨fun b eb => ⟨v, rfl, (by cases eb; exact h1)⟩, fun z => (by cases z)⟩
    · rw [if_neg e, if_neg e]
      exact ⟨k1, k2⟩
/-- dict(catalog) -/
theorem r_dictCat {H : Hp} {c : Cat} {v : V} {Q : VK} (h : CatAt H c v) (nd : (c.map (·.1)).Nodup) (q : ∀ p vs, H p = none → Al H (c.map (·.2)) vs → Q (.ref p) (upd H p (.dK (catK c vs)))) : rDictF [v] H Q := by
  obtain ⟨a, o, xs, rfl, e2, e3, e4⟩ := h
  obtain ⟨vs, k1, k2⟩ := cat_pairs e4
  refine ⟨a, o, xs, _, rfl, e2, e3, k1, fun p hp => ?_⟩
  have hl : vs.length = c.length := by rw [Al.len k2, List.length_map]
  have hk := catK_keys hl
  rw [merge_nd (catK c vs) [] (by rw [List.nil_append, hk, show (c.map fun p => (Sum.inr p.1 : Key)) = (c.map (·.1)).map fun x => (Sum.inr x : Key) by rw [List.map_map]; rfl]; exact nodup_inr nd), List.nil_append]
  exact q p vs hp k2
end G3
end

/-! ## G3Loop -/
section
set_option Elab.async false
set_option linter.all false
set_option maxRecDepth 100000
set_option maxHeartbeats 4000000
/-! What is walked, by typed data; comprehensions whose turns change nothing that stood. -/
namespace G3
open PySem PySem.Spec PyProof.Rows L2
instance : Enc Bool := ⟨.bool, fun _ => True, 0, fun a h => rfl, fun a => by simp [PyData.depth], fun a b => by simp [PyData.eqv]⟩
abbrev Rel (α : Type) := Hp → α → V → Prop
abbrev RAt {α : Type} [Enc α] : Rel α := fun H a v => At H a v
def Stab {α : Type} (R : Rel α) : Prop := ∀ H H' a v, TupS H H' → R H a v → R H' a v
theorem stab_at {α : Type} [Enc α] : Stab (RAt (α := α)) := fun H H' a v k h => h.tup k
theorem al_paired {α : Type} [Enc α] {H : Hp} : ∀ {l : List α} {vs : List V}, Al H l vs ↔ Paired (fun a v => At H a v) l vs
  | [], vs => ⟨fun h => by rw [show vs = [] from h]; exact .nil, fun h => by cases h; rfl⟩
  | a :: l, vs => ⟨fun h => by obtain ⟨v, vr, rfl, h1, h2⟩ := h; exact .cons h1 (al_paired.mp h2), fun h => by cases h with | cons h1 h2 => exact ⟨_, _, rfl, h1, al_paired.mpr h2⟩⟩
/-- a walk over the items l that goes while G holds -/
structure Src {α : Type} (C : Hp → Hp → Prop) (R : Rel α) (J : It) (l : List α) (G : Hp → Prop) : Prop where
  goes : ∀ i H, i < l.length → G H → J.go i H
  stops : ∀ H, G H → J.stop l.length H
  yields : ∀ i H x H', i < l.length → G H → J.yld i H x H' → C H H' ∧ ∃ a, l[i]? = some a ∧ R H' a x
abbrev GT {α : Type} [Enc α] (K : PySem.W.Frag) (p : Addr) (xs : List V) (l : List α) (H : Hp) : Prop := SqT K H p xs ∧ Al H l xs
abbrev GL {α : Type} [Enc α] (K : PySem.W.Frag) (p : Addr) (xs : List V) (l : List α) (H : Hp) : Prop := SqL K H p xs ∧ Al H l xs
section
variable {α : Type} [Enc α] {K : PySem.W.Frag} {H H' : Hp} {p : Addr} {xs : List V} {l : List α}
theorem sqT_tup (h : SqT K H p xs) (s : TupS H H') : SqT K H' p xs := by
  rcases h with (h | ⟨o, h⟩) | h
  · exact .inl (.inl (s _ _ h rfl))
  · exact .inl (.inr ⟨o, s _ _ h rfl⟩)
  · exact .inr h
theorem gt_tup (h : GT K p xs l H) (s : TupS H H') : GT K p xs l H' := ⟨sqT_tup h.1 s, h.2.tup s⟩
theorem gt_same (h : GT K p xs l H) (s : Same H H') : GT K p xs l H' := gt_tup h s.tupS
theorem gl_same (h : GL K p xs l H) (s : Same H H') : GL K p xs l H' := ⟨s.seq h.1, h.2.same s⟩
theorem src_tup : Src Eq RAt (Itt K p) l (GT K p xs l) := by
  refine ⟨fun i H' hi g => ⟨xs, xs[i]'(by have := Al.len g.2; omega), g.1, by have := Al.len g.2; simp [show i < xs.length by omega]⟩, fun H' g => ⟨xs, g.1, by have := Al.len g.2; omega⟩, fun i H' x H2 hi g y => ?_⟩
  obtain ⟨rfl, y⟩ := y
  obtain ⟨a, e1, e2⟩ := Al.get g.2 (y xs g.1)
  exact ⟨rfl, a, e1, e2⟩
theorem src_list : Src Eq RAt (Itl K p) l (GL K p xs l) := by
  refine ⟨fun i H' hi g => ⟨xs, xs[i]'(by have := Al.len g.2; omega), g.1, by have := Al.len g.2; simp [show i < xs.length by omega]⟩, fun H' g => ⟨xs, g.1, by have := Al.len g.2; omega⟩, fun i H' x H2 hi g y => ?_⟩
  obtain ⟨rfl, y⟩ := y
  obtain ⟨a, e1, e2⟩ := Al.get g.2 (y xs g.1)
  exact ⟨rfl, a, e1, e2⟩
def irange (lo : Int) (n : Nat) : List Int := (List.range n).map fun i => lo + (i : Nat)
theorem irange_get {lo : Int} {n i : Nat} (h : i < n) : (irange lo n)[i]? = some (lo + (i : Nat)) := by
  unfold irange
  rw [List.getElem?_map, List.getElem?_range h]
  rfl
theorem irange_len {lo : Int} {n : Nat} : (irange lo n).length = n := by simp [irange]
theorem irange_mem {lo : Int} {n : Nat} {z : Int} : z ∈ irange lo n ↔ lo ≤ z ∧ z < lo + n := by
  unfold irange
  rw [List.mem_map]
  constructor
  · rintro ⟨i, hi, rfl⟩
    have := List.mem_range.mp hi
    omega
  · rintro ⟨h1, h2⟩
    exact ⟨(z - lo).toNat, List.mem_range.mpr (by omega), by omega⟩
theorem src_range {lo : Int} {n : Nat} : Src Eq (RAt (α := Int)) (Itr lo n) (irange lo n) (fun _ => True) := by
  refine ⟨fun i H' hi s => by rw [irange_len] at hi; exact hi, fun H' s => by rw [irange_len]; exact Nat.le_refl _, fun i H' x H2 hi s y => ?_⟩
  obtain ⟨rfl, rfl⟩ := y
  rw [irange_len] at hi
  exact ⟨rfl, _, irange_get hi, rfl⟩
end
abbrev RItem : Rel (Key × V) := fun H kv x => ∃ T, x = .ref T ∧ H T = some (.tup [kV kv.1, kv.2])
/-- the items of a dict that stands still -/
theorem src_items {d : Addr} {o : Obj} {kvs : List (Key × V)} : Src Same RItem (Iti d o kvs) kvs (fun H => H d = some (.frz o (.dK kvs))) := by
  refine ⟨fun i H' hi s => ⟨s, hi⟩, fun H' s => ⟨s, Nat.le_refl _⟩, fun i H' x H2 hi s y => ?_⟩
  obtain ⟨T, k, v, h1, h2, h3, rfl⟩ := y
  exact ⟨.new h3, (k, v), h1, T, h2, upd_same⟩
abbrev RKey : Rel (Key × V) := fun H kv x => x = kV kv.1
theorem src_keys {d : Addr} {o : Obj} {kvs : List (Key × V)} : Src Eq RKey (Itk d o kvs) kvs (fun H => H d = some (.frz o (.dK kvs))) := by
  refine ⟨fun i H' hi s => ⟨s, hi⟩, fun H' s => ⟨s, Nat.le_refl _⟩, fun i H' x H2 hi s y => ?_⟩
  obtain ⟨rfl, k, v, h1, rfl⟩ := y
  exact ⟨rfl, (k, v), h1, rfl⟩
abbrev RVal : Rel (Key × V) := fun H kv x => x = kv.2
/-- the list at p holds vs, which are l by R -/
abbrev GLR {α : Type} (K : PySem.W.Frag) (p : Addr) (vs : List V) (R : Rel α) (l : List α) (H : Hp) : Prop := SqL K H p vs ∧ Paired (R H) l vs
theorem paired_get {α β : Type} {F : α → β → Prop} : ∀ {l : List α} {m : List β} {i : Nat} {b : β}, Paired F l m → m[i]? = some b → ∃ a, l[i]? = some a ∧ F a b
  | _, _, _, _, .nil, e => by cases e
  | _, _, 0, _, .cons h t, e => by cases e; exact ⟨_, rfl, h⟩
  | _, _, i + 1, _, .cons h t, e => by
    obtain ⟨a, e1, e2⟩ := paired_get (i := i) t (by simpa using e)
    exact ⟨a, by simpa using e1, e2⟩
theorem src_listR {α : Type} {K : PySem.W.Frag} {p : Addr} {xs : List V} {R : Rel α} {l : List α} : Src Eq R (Itl K p) l (GLR K p xs R l) := by
  refine ⟨fun i H' hi g => ⟨xs, xs[i]'(by have := g.2.length; omega), g.1, by have := g.2.length; simp [show i < xs.length by omega]⟩, fun H' g => ⟨xs, g.1, by have := g.2.length; omega⟩, fun i H' x H2 hi g y => ?_⟩
  obtain ⟨rfl, y⟩ := y
  obtain ⟨a, e1, e2⟩ := paired_get g.2 (y xs g.1)
  exact ⟨rfl, a, e1, e2⟩
theorem filt_snoc {α β : Type} (keep : α → Bool) (f : α → β) {l : List α} {i : Nat} {a : α} (h : l[i]? = some a) :
    ((l.take (i + 1)).filter keep).map f = ((l.take i).filter keep).map f ++ if keep a then [f a] else [] := by
  rw [List.take_add_one, h, List.filter_append, List.map_append]
  cases q : keep a <;> simp [q]
/-- the comprehension's list where no turn changes what stood -/
theorem lc_pure {α β : Type} {Ra : Rel α} {J : It} {l : List α} {H1 : Hp} {G : Hp → Prop} {C : Hp → Hp → Prop} (w : Src C Ra J l G) (hC : ∀ a b, C a b → Same a b) (hG : ∀ H, Same H1 H → G H) (Rb : Rel β) (hb : Stab Rb) (keep : α → Bool) (f : α → β) (hl : l.length < sizeLine)
    {g : TG} {tt : TT} {te : TE} {vs : List Nat} {σ : L2.St} {Q : VK}
    (step : ∀ (a : α) (x : V) (H2 : Hp) (R : Option V → Hp → Prop), a ∈ l → Same H1 H2 → Ra H2 a x → (∀ y H4, Same H2 H4 → keep a = true → Rb H4 (f a) y → R (some y) H4) → (∀ H4, Same H2 H4 → keep a = false → R none H4) →
      g x (wipe σ vs) H2 fun σ2 H3 => wipe σ2 vs = wipe σ vs ∧ tt σ2 H3 fun b H4 => if b = true then te σ2 H4 (fun y H5 => R (some y) H5) else R none H4)
    (fin : ∀ D ys H', H1 D = none → Same H1 H' → H' D = some (.lst ys) → Paired (Rb H') ((l.filter keep).map f) ys → Q (.ref D) H') :
    ∀ D, H1 D = none → ∃ W : Nat → Nat → Hp → Prop, (∃ m, W 0 m (upd H1 D (.lst []))) ∧ ∀ i m H, W i m H →
      (J.stop i H ∧ Q (.ref D) H) ∨ (J.go i H ∧ ∃ Nx : Hp → Prop, (∀ H', Nx H' → ∃ m', m' < m ∧ W (i + 1) m' H') ∧ ∀ x H', J.yld i H x H' → g x (wipe σ vs) H' fun σ2 H2 => wipe σ2 vs = wipe σ vs ∧ tt σ2 H2 fun b H3 =>
        if b = true then te σ2 H3 fun y H4 => ∃ acc, H4 D = some (.lst acc) ∧ acc.length < sizeLine ∧ Nx (upd H4 D (.lst (acc ++ [y]))) else Nx H3) := by
  intro D hD
  refine ⟨fun i m H => m = l.length - i ∧ i ≤ l.length ∧ Same H1 H ∧ ∃ ys, H D = some (.lst ys) ∧ Paired (Rb H) (((l.take i).filter keep).map f) ys, ⟨l.length, by simp, Nat.zero_le _, Same.new hD, [], upd_same, .nil⟩, ?_⟩
  rintro i m H ⟨rfl, hi, s, ys, hd, hp⟩
  by_cases hlt : i < l.length
  · refine .inr ⟨w.goes i H hlt (hG H s), fun H' => Same H1 H' ∧ ∃ ys, H' D = some (.lst ys) ∧ Paired (Rb H') (((l.take (i + 1)).filter keep).map f) ys, fun H' p' => ⟨l.length - (i + 1), by omega, rfl, hlt, p'⟩, fun x H' y => ?_⟩
    obtain ⟨s2, a, ea, ha⟩ := w.yields i H x H' hlt (hG H s) y
    have s2 := hC _ _ s2
    have hys : ys.length ≤ i := by
      have := hp.length
      rw [List.length_map] at this
      have h2 := List.length_filter_le keep (l.take i)
      rw [List.length_take] at h2
      omega
    have mv : ∀ {H4 : Hp}, Same H' H4 → Paired (Rb H4) (((l.take i).filter keep).map f) ys := fun {H4} s4 => Paired.mapP hp fun b v q => hb _ _ b v (s2.trans s4).tupS q
    refine step a x H' (fun oy H4 => match oy with
      | some y => ∃ acc, H4 D = some (.lst acc) ∧ acc.length < sizeLine ∧ (Same H1 (upd H4 D (.lst (acc ++ [y]))) ∧ ∃ ys, upd H4 D (.lst (acc ++ [y])) D = some (.lst ys) ∧ Paired (Rb (upd H4 D (.lst (acc ++ [y])))) (((l.take (i + 1)).filter keep).map f) ys)
      | none => Same H1 H4 ∧ ∃ ys, H4 D = some (.lst ys) ∧ Paired (Rb H4) (((l.take (i + 1)).filter keep).map f) ys) (List.mem_of_getElem? ea) (s.trans s2) ha (fun y H4 s4 kp hy => ?_) fun H4 s4 kp => ?_
    · have h4 : H4 D = some (.lst ys) := s4 _ _ (s2 _ _ hd)
      have k : TupS H4 (upd H4 D (.lst (ys ++ [y]))) := .lst h4
      refine ⟨ys, h4, by omega, ((s.trans s2).trans s4).put hD, ys ++ [y], upd_same, ?_⟩
      rw [filt_snoc keep f ea, if_pos kp]
      exact Paired.snoc (Paired.mapP (mv s4) fun b v q => hb _ _ b v k q) (hb _ _ _ _ k hy)
    · refine ⟨(s.trans s2).trans s4, ys, s4 _ _ (s2 _ _ hd), ?_⟩
      rw [filt_snoc keep f ea, if_neg (by rw [kp]; exact Bool.false_ne_true), List.append_nil]
      exact mv s4
  · have e : i = l.length := by omega
    subst e
    rw [List.take_length] at hp
    exact .inl ⟨w.stops H (hG H s), fin D ys H hD s hd hp⟩
/-- what stands elsewhere than at D stays -/
def Off (D : Addr) (H H' : Hp) : Prop := ∀ b o, b ≠ D → H b = some o → H' b = some o
theorem off_upd {D : Addr} {H : Hp} {o : HO} : Off D H (upd H D o) := fun b u h e => by rw [upd_ne h]; exact e
theorem off_same {D : Addr} {H H' : Hp} (s : Same H H') : Off D H H' := fun b u h e => s b u e
/-- stays when a dict changes -/
def StabD {α : Type} (R : Rel α) : Prop := ∀ H H' D kvs a v, H D = some (.dK kvs) → Off D H H' → R H a v → R H' a v
theorem Stab.dict {α : Type} {R : Rel α} (s : Stab R) : StabD R := fun H H' D kvs a v e o r => s H H' a v (fun b u q t => o b u (fun z => by rw [z, e] at q; rw [← Option.some.inj q] at t; cases t) q) r
/-- the value is a new object -/
def Fresh (H H4 : Hp) (z : V) : Prop := ∃ a o, z = .ref a ∧ H a = none ∧ H4 a = some o ∧ ∀ kvs, o ≠ .dK kvs
/-- a dict's comprehension, the keys different texts, no turn changes what stood; N: the values are new objects -/
theorem dc_pure (N : Bool) {α β : Type} {Ra : Rel α} {J : It} {l : List α} {H1 : Hp} {G : Hp → Prop} {C : Hp → Hp → Prop} (w : Src C Ra J l G) (hC : ∀ a b, C a b → Same a b) (hG : ∀ H, Same H1 H → G H) (Rb : Rel β) (hb : StabD Rb) (keep : α → Bool) (key : α → Str) (f : α → β) (hl : l.length < sizeLine) (nd : ((l.filter keep).map key).Nodup)
    {g : TG} {tt : TT} {tk tv : TE} {vs : List Nat} {σ : L2.St} {Q : VK}
    (step : ∀ (a : α) (x : V) (H2 : Hp) (R : Option (V × V) → Hp → Prop), a ∈ l → Same H1 H2 → Ra H2 a x → (∀ y H4, Same H2 H4 → keep a = true → Rb H4 (f a) y → (N = true → Fresh H2 H4 y) → R (some (.str (key a), y)) H4) → (∀ H4, Same H2 H4 → keep a = false → R none H4) →
      g x (wipe σ vs) H2 fun σ2 H3 => wipe σ2 vs = wipe σ vs ∧ tt σ2 H3 fun b H4 => if b = true then tk σ2 H4 (fun y H5 => tv σ2 H5 fun z H6 => R (some (y, z)) H6) else R none H4)
    (fin : ∀ D kvs H', H1 D = none → Same H1 H' → H' D = some (.dK kvs) → kvs.map (·.1) = (l.filter keep).map (fun a => (Sum.inr (key a) : Key)) → Paired (Rb H') ((l.filter keep).map f) (kvs.map (·.2)) → (N = true → (kvs.map (·.2)).Nodup) → Q (.ref D) H') :
    ∀ D, H1 D = none → ∃ W : Nat → Nat → Hp → Prop, (∃ m, W 0 m (upd H1 D (.dK []))) ∧ ∀ i m H, W i m H →
      (J.stop i H ∧ Q (.ref D) H) ∨ (J.go i H ∧ ∃ Nx : Hp → Prop, (∀ H', Nx H' → ∃ m', m' < m ∧ W (i + 1) m' H') ∧ ∀ x H', J.yld i H x H' → g x (wipe σ vs) H' fun σ2 H2 => wipe σ2 vs = wipe σ vs ∧ tt σ2 H2 fun b H3 =>
        if b = true then tk σ2 H3 fun y H4 => tv σ2 H4 fun z H5 => ∃ kvs k, y = kV k ∧ H5 D = some (.dK kvs) ∧ kvs.length < sizeLine ∧ Nx (upd H5 D (.dK (putK kvs k z))) else Nx H3) := by
  intro D hD
  let Iv : Nat → Hp → Prop := fun i H => Same H1 H ∧ ∃ kvs, H D = some (.dK kvs) ∧ kvs.map (·.1) = ((l.take i).filter keep).map (fun a => (Sum.inr (key a) : Key)) ∧ Paired (Rb H) (((l.take i).filter keep).map f) (kvs.map (·.2)) ∧
    (N = true → (kvs.map (·.2)).Nodup ∧ ∀ v ∈ kvs.map (·.2), ∃ a o, v = .ref a ∧ H a = some o ∧ a ≠ D)
  refine ⟨fun i m H => m = l.length - i ∧ i ≤ l.length ∧ Iv i H, ⟨l.length, by simp, Nat.zero_le _, Same.new hD, [], upd_same, rfl, .nil, fun _ => ⟨by simp, fun v hv => by simp at hv⟩⟩, ?_⟩
  rintro i m H ⟨rfl, hi, s, kvs, hd, hk, hp, hn⟩
  by_cases hlt : i < l.length
  · refine .inr ⟨w.goes i H hlt (hG H s), fun H' => Iv (i + 1) H', fun H' p' => ⟨l.length - (i + 1), by omega, rfl, hlt, p'⟩, fun x H' y => ?_⟩
    obtain ⟨s2, a, ea, ha⟩ := w.yields i H x H' hlt (hG H s) y
    have s2 := hC _ _ s2
    have hlen : kvs.length ≤ i := by
      have := congrArg List.length hk
      rw [List.length_map, List.length_map] at this
      have h2 := List.length_filter_le keep (l.take i)
      rw [List.length_take] at h2
      omega
    refine step a x H' (fun oy H4 => match oy with
      | some (y, z) => ∃ kvs k, y = kV k ∧ H4 D = some (.dK kvs) ∧ kvs.length < sizeLine ∧ Iv (i + 1) (upd H4 D (.dK (putK kvs k z)))
      | none => Iv (i + 1) H4) (List.mem_of_getElem? ea) (s.trans s2) ha (fun z H4 s4 kp hz fr => ?_) fun H4 s4 kp => ?_
    · have s24 := s2.trans s4
      have h4 : H4 D = some (.dK kvs) := s24 _ _ hd
      have hkn : valV kvs (.inr (key a)) = none := by
        rw [valV_gv, gv_none, hk]
        intro hm
        have e2 : (l.take (i + 1)).filter keep = (l.take i).filter keep ++ [a] := by
          rw [List.take_add_one, ea, List.filter_append]
          show _ ++ [a].filter keep = _
          rw [List.filter_cons, if_pos kp]; rfl
        have nd2 : (((l.take (i + 1)).filter keep).map key).Nodup := nd.sublist (((List.take_sublist (i + 1) l).filter keep).map key)
        rw [e2, List.map_append, List.nodup_append] at nd2
        obtain ⟨b, hb1, hb2⟩ := List.mem_map.mp hm
        exact nd2.2.2 (key a) (List.mem_map.mpr ⟨b, hb1, Sum.inr.inj hb2⟩) (key a) (by simp) rfl
      refine ⟨kvs, .inr (key a), rfl, h4, by omega, ((s.trans s2).trans s4).put hD, putK kvs (.inr (key a)) z, upd_same, ?_, ?_, fun hN => ?_⟩
      · rw [putK_new z hkn, List.map_append, hk, filt_snoc keep _ ea, if_pos kp]; rfl
      · rw [putK_new z hkn, List.map_append, filt_snoc keep f ea, if_pos kp]
        exact Paired.snoc (Paired.mapP hp fun b v q => hb _ _ D kvs b v hd (fun b o h e => off_upd b o h (s24 _ _ e)) q) (hb _ _ D kvs _ _ h4 off_upd hz)
      · obtain ⟨n1, n2⟩ := hn hN
        obtain ⟨az, oz, rfl, f1, f2, f3⟩ := fr hN
        rw [putK_new _ hkn, List.map_append]
        refine ⟨List.nodup_append.mpr ⟨n1, by simp, fun v hv u hu e => ?_⟩, fun v hv => ?_⟩
        · rw [List.map_cons, List.map_nil, List.mem_singleton] at hu
          obtain ⟨b, o, e1, e2, _⟩ := n2 v hv
          rw [e, hu] at e1
          cases e1
          rw [s2 _ _ e2] at f1
          cases f1
        · rcases List.mem_append.mp hv with hv | hv
          · obtain ⟨b, o, e1, e2, e3⟩ := n2 v hv
            exact ⟨b, o, e1, by rw [upd_ne e3]; exact s24 _ _ e2, e3⟩
          · rw [List.map_cons, List.map_nil, List.mem_singleton] at hv
            have hne : az ≠ D := fun e => by rw [e, h4] at f2; exact f3 kvs (Option.some.inj f2).symm
            exact ⟨az, oz, hv, by rw [upd_ne hne]; exact f2, hne⟩
    · have s24 := s2.trans s4
      refine ⟨s.trans s24, kvs, s24 _ _ hd, ?_, ?_, fun hN => ?_⟩
      · rw [filt_snoc keep _ ea, if_neg (by rw [kp]; exact Bool.false_ne_true), List.append_nil]; exact hk
      · rw [filt_snoc keep f ea, if_neg (by rw [kp]; exact Bool.false_ne_true), List.append_nil]
        exact Paired.mapP hp fun b v q => hb _ _ D kvs b v hd (off_same s24) q
      · obtain ⟨n1, n2⟩ := hn hN
        exact ⟨n1, fun v hv => by obtain ⟨b, o, e1, e2, e3⟩ := n2 v hv; exact ⟨b, o, e1, s24 _ _ e2, e3⟩⟩
  · have e : i = l.length := by omega
    subst e
    rw [List.take_length] at hk hp
    exact .inl ⟨w.stops H (hG H s), fin D kvs H hD s hd hk hp fun hN => (hn hN).1⟩
/-- a loop over typed items -/
theorem for_src {α : Type} {Ra : Rel α} {J : It} {l : List α} {H1 : Hp} {G : Hp → Prop} {C : Hp → Hp → Prop} {σ : L2.St} {D : Ends} {g : TG} {tu : TS} (w : Src C Ra J l G) (Pv : Nat → L2.St → Hp → Prop) (hG : ∀ i σ H, Pv i σ H → G H) (h0 : Pv 0 σ H1)
    (hs : ∀ (i : Nat) (a : α) (x : V) σ' H' H2, l[i]? = some a → Pv i σ' H' → C H' H2 → Ra H2 a x → g x σ' H2 fun σ2 H2 => tu { D with nx := Pv (i + 1), ct := Pv (i + 1), bk := D.nx } σ2 H2) (hd : ∀ σ' H', Pv l.length σ' H' → D.nx σ' H') :
    ∃ W : Nat → Nat → L2.St → Hp → Prop, (∃ m, W 0 m σ H1) ∧ ∀ i m σ H, W i m σ H →
      (J.stop i H ∧ D.nx σ H) ∨ (J.go i H ∧ ∃ N : L2.St → Hp → Prop, (∀ σ' H', N σ' H' → ∃ m', m' < m ∧ W (i + 1) m' σ' H') ∧ ∀ x H', J.yld i H x H' → g x σ H' fun σ2 H2 => tu { D with nx := N, ct := N, bk := D.nx } σ2 H2) := by
  refine ⟨fun i m σ H => m = l.length - i ∧ i ≤ l.length ∧ Pv i σ H, ⟨l.length, by simp, Nat.zero_le _, h0⟩, ?_⟩
  rintro i m σ H ⟨rfl, hi, p⟩
  by_cases hlt : i < l.length
  · refine .inr ⟨w.goes i H hlt (hG _ _ _ p), Pv (i + 1), fun σ' H' p' => ⟨l.length - (i + 1), by omega, rfl, hlt, p'⟩, fun x H' y => ?_⟩
    obtain ⟨s2, a, ea, ha⟩ := w.yields i H x H' hlt (hG _ _ _ p) y
    exact hs i a x σ H H' ea p s2 ha
  · have e : i = l.length := by omega
    subst e
    exact .inl ⟨w.stops H (hG _ _ _ p), hd σ H p⟩
section
variable {α β : Type} {K : PySem.W.Frag} {H H1 : Hp} {σ : L2.St} {tl : TE} {ta : TA} {g : TG} {tu : TS} {D : Ends} {p : Addr} {xs : List V} {l : List α} {tt : TT} {te tk tv : TE} {vs : List Nat} {Q : VK} {lo hi : Int} {o : Obj} {kvs : List (Key × V)}
/-- for over a tuple -/
theorem for_tup [Enc α] (hsrc : ∀ R : V → Hp → Prop, R (.ref p) H1 → tl σ H R) (hl : GT K p xs l H1) (Pv : Nat → L2.St → Hp → Prop) (hT : ∀ i σ H, Pv i σ H → TupS H1 H) (h0 : Pv 0 σ H1)
    (hs : ∀ (i : Nat) (a : α) (x : V) σ' H', l[i]? = some a → Pv i σ' H' → At H' a x → g x σ' H' fun σ2 H2 => tu { D with nx := Pv (i + 1), ct := Pv (i + 1), bk := D.nx } σ2 H2) (hd : ∀ σ' H', Pv l.length σ' H' → D.nx σ' H') : tFor (iTup K tl) g tu D σ H :=
  hsrc _ ⟨p, rfl, ⟨xs, hl.1⟩, for_src src_tup Pv (fun i σ' H' q => gt_tup hl (hT i σ' H' q)) h0 (fun i a x σ' H' H2 e q s r => by subst s; exact hs i a x σ' H' e q r) hd⟩
/-- for over a list that stays -/
theorem for_list [Enc α] (hsrc : ∀ R : V → Hp → Prop, R (.ref p) H1 → tl σ H R) (hl : ∃ xs, SqL K H1 p xs) (Pv : Nat → L2.St → Hp → Prop) (hT : ∀ i σ H, Pv i σ H → GL K p xs l H) (h0 : Pv 0 σ H1)
    (hs : ∀ (i : Nat) (a : α) (x : V) σ' H', l[i]? = some a → Pv i σ' H' → At H' a x → g x σ' H' fun σ2 H2 => tu { D with nx := Pv (i + 1), ct := Pv (i + 1), bk := D.nx } σ2 H2) (hd : ∀ σ' H', Pv l.length σ' H' → D.nx σ' H') : tFor (iList K tl) g tu D σ H :=
  hsrc _ ⟨p, rfl, hl, for_src src_list Pv hT h0 (fun i a x σ' H' H2 e q s r => by subst s; exact hs i a x σ' H' e q r) hd⟩
/-- for over a list that stays, its items by R -/
theorem for_listR {R : Rel α} (hsrc : ∀ R : V → Hp → Prop, R (.ref p) H1 → tl σ H R) (hl : ∃ xs, SqL K H1 p xs) (Pv : Nat → L2.St → Hp → Prop) (hT : ∀ i σ H, Pv i σ H → GLR K p xs R l H) (h0 : Pv 0 σ H1)
    (hs : ∀ (i : Nat) (a : α) (x : V) σ' H', l[i]? = some a → Pv i σ' H' → R H' a x → g x σ' H' fun σ2 H2 => tu { D with nx := Pv (i + 1), ct := Pv (i + 1), bk := D.nx } σ2 H2) (hd : ∀ σ' H', Pv l.length σ' H' → D.nx σ' H') : tFor (iList K tl) g tu D σ H :=
  hsrc _ ⟨p, rfl, hl, for_src src_listR Pv hT h0 (fun i a x σ' H' H2 e q s r => by subst s; exact hs i a x σ' H' e q r) hd⟩
theorem lc_listR {R : Rel α} (hsrc : ∀ R : V → Hp → Prop, R (.ref p) H1 → tl σ H R) (hl : GLR K p xs R l H1) (hR : Stab R) (Rb : Rel β) (hb : Stab Rb) (keep : α → Bool) (f : α → β) (hn : l.length < sizeLine)
    (step : ∀ (a : α) (x : V) (H2 : Hp) (R' : Option V → Hp → Prop), a ∈ l → Same H1 H2 → R H2 a x → (∀ y H4, Same H2 H4 → keep a = true → Rb H4 (f a) y → R' (some y) H4) → (∀ H4, Same H2 H4 → keep a = false → R' none H4) →
      g x (wipe σ vs) H2 fun σ2 H3 => wipe σ2 vs = wipe σ vs ∧ tt σ2 H3 fun b H4 => if b = true then te σ2 H4 (fun y H5 => R' (some y) H5) else R' none H4)
    (fin : ∀ D ys H', H1 D = none → Same H1 H' → H' D = some (.lst ys) → Paired (Rb H') ((l.filter keep).map f) ys → Q (.ref D) H') : tLc (iList K tl) g tt te vs σ H Q :=
  hsrc _ ⟨p, rfl, ⟨xs, hl.1⟩, lc_pure (Ra := R) (G := GLR K p xs R l) (C := Eq) src_listR (fun a b e => by subst e; exact .refl _) (fun H s => ⟨s.seq hl.1, Paired.mapP hl.2 fun b v q => hR _ _ b v s.tupS q⟩) Rb hb keep f hn step fin⟩
/-- for over range(lo, hi) -/
theorem for_range (hsrc : ∀ R : List V → Hp → Prop, R [.int lo, .int hi] H1 → ta σ H R) (hb : -(2 ^ 62) ≤ lo ∧ lo < 2 ^ 62 ∧ -(2 ^ 62) ≤ hi ∧ hi < 2 ^ 62) (Pv : Nat → L2.St → Hp → Prop) (h0 : Pv 0 σ H1)
    (hs : ∀ (i : Nat) (a : Int) σ' H', (irange lo (hi - lo).toNat)[i]? = some a → Pv i σ' H' → g (.int a) σ' H' fun σ2 H2 => tu { D with nx := Pv (i + 1), ct := Pv (i + 1), bk := D.nx } σ2 H2) (hd : ∀ σ' H', Pv (hi - lo).toNat σ' H' → D.nx σ' H') : tFor (iRng2 ta) g tu D σ H :=
  hsrc _ ⟨lo, hi, rfl, hb, for_src src_range Pv (fun _ _ _ _ => trivial) h0 (fun i a x σ' H' H2 e q s r => by subst s; rw [show x = .int a from r]; exact hs i a σ' H' e q) (by rw [irange_len]; exact hd)⟩
/-- [.. for .. in a tuple] -/
theorem lc_tup [Enc α] (hsrc : ∀ R : V → Hp → Prop, R (.ref p) H1 → tl σ H R) (hl : GT K p xs l H1) (Rb : Rel β) (hb : Stab Rb) (keep : α → Bool) (f : α → β) (hn : l.length < sizeLine)
    (step : ∀ (a : α) (x : V) (H2 : Hp) (R : Option V → Hp → Prop), a ∈ l → Same H1 H2 → At H2 a x → (∀ y H4, Same H2 H4 → keep a = true → Rb H4 (f a) y → R (some y) H4) → (∀ H4, Same H2 H4 → keep a = false → R none H4) →
      g x (wipe σ vs) H2 fun σ2 H3 => wipe σ2 vs = wipe σ vs ∧ tt σ2 H3 fun b H4 => if b = true then te σ2 H4 (fun y H5 => R (some y) H5) else R none H4)
    (fin : ∀ D ys H', H1 D = none → Same H1 H' → H' D = some (.lst ys) → Paired (Rb H') ((l.filter keep).map f) ys → Q (.ref D) H') : tLc (iTup K tl) g tt te vs σ H Q :=
  hsrc _ ⟨p, rfl, ⟨xs, hl.1⟩, lc_pure (Ra := RAt) (G := GT K p xs l) (C := Eq) src_tup (fun a b e => by subst e; exact .refl _) (fun H s => gt_same hl s) Rb hb keep f hn step fin⟩
theorem lc_list [Enc α] (hsrc : ∀ R : V → Hp → Prop, R (.ref p) H1 → tl σ H R) (hl : GL K p xs l H1) (Rb : Rel β) (hb : Stab Rb) (keep : α → Bool) (f : α → β) (hn : l.length < sizeLine)
    (step : ∀ (a : α) (x : V) (H2 : Hp) (R : Option V → Hp → Prop), a ∈ l → Same H1 H2 → At H2 a x → (∀ y H4, Same H2 H4 → keep a = true → Rb H4 (f a) y → R (some y) H4) → (∀ H4, Same H2 H4 → keep a = false → R none H4) →
      g x (wipe σ vs) H2 fun σ2 H3 => wipe σ2 vs = wipe σ vs ∧ tt σ2 H3 fun b H4 => if b = true then te σ2 H4 (fun y H5 => R (some y) H5) else R none H4)
    (fin : ∀ D ys H', H1 D = none → Same H1 H' → H' D = some (.lst ys) → Paired (Rb H') ((l.filter keep).map f) ys → Q (.ref D) H') : tLc (iList K tl) g tt te vs σ H Q :=
  hsrc _ ⟨p, rfl, ⟨xs, hl.1⟩, lc_pure (Ra := RAt) (G := GL K p xs l) (C := Eq) src_list (fun a b e => by subst e; exact .refl _) (fun H s => gl_same hl s) Rb hb keep f hn step fin⟩
theorem lc_range (hsrc : ∀ R : List V → Hp → Prop, R [.int lo, .int hi] H1 → ta σ H R) (hB : -(2 ^ 62) ≤ lo ∧ lo < 2 ^ 62 ∧ -(2 ^ 62) ≤ hi ∧ hi < 2 ^ 62) (Rb : Rel β) (hb : Stab Rb) (keep : Int → Bool) (f : Int → β) (hn : (hi - lo).toNat < sizeLine)
    (step : ∀ (a : Int) (H2 : Hp) (R : Option V → Hp → Prop), a ∈ irange lo (hi - lo).toNat → Same H1 H2 → (∀ y H4, Same H2 H4 → keep a = true → Rb H4 (f a) y → R (some y) H4) → (∀ H4, Same H2 H4 → keep a = false → R none H4) →
      g (.int a) (wipe σ vs) H2 fun σ2 H3 => wipe σ2 vs = wipe σ vs ∧ tt σ2 H3 fun b H4 => if b = true then te σ2 H4 (fun y H5 => R (some y) H5) else R none H4)
    (fin : ∀ D ys H', H1 D = none → Same H1 H' → H' D = some (.lst ys) → Paired (Rb H') (((irange lo (hi - lo).toNat).filter keep).map f) ys → Q (.ref D) H') : tLc (iRng2 ta) g tt te vs σ H Q :=
  hsrc _ ⟨lo, hi, rfl, hB, lc_pure (Ra := RAt) (G := fun _ => True) (C := Eq) src_range (fun a b e => by subst e; exact .refl _) (fun H s => trivial) Rb hb keep f (by rw [irange_len]; exact hn) (fun a x H2 R hm s e hk hn => by rw [show x = .int a from e]; exact step a H2 R hm s hk hn) fin⟩
theorem lc_range1 (hsrc : ∀ R : List V → Hp → Prop, R [.int hi] H1 → ta σ H R) (hB : -(2 ^ 62) ≤ hi ∧ hi < 2 ^ 62) (Rb : Rel β) (hb : Stab Rb) (keep : Int → Bool) (f : Int → β) (hn : hi.toNat < sizeLine)
    (step : ∀ (a : Int) (H2 : Hp) (R : Option V → Hp → Prop), a ∈ irange 0 hi.toNat → Same H1 H2 → (∀ y H4, Same H2 H4 → keep a = true → Rb H4 (f a) y → R (some y) H4) → (∀ H4, Same H2 H4 → keep a = false → R none H4) →
      g (.int a) (wipe σ vs) H2 fun σ2 H3 => wipe σ2 vs = wipe σ vs ∧ tt σ2 H3 fun b H4 => if b = true then te σ2 H4 (fun y H5 => R (some y) H5) else R none H4)
    (fin : ∀ D ys H', H1 D = none → Same H1 H' → H' D = some (.lst ys) → Paired (Rb H') (((irange 0 hi.toNat).filter keep).map f) ys → Q (.ref D) H') : tLc (iRng1 ta) g tt te vs σ H Q :=
  hsrc _ ⟨hi, rfl, hB.1, hB.2, lc_pure (Ra := RAt) (G := fun _ => True) (C := Eq) src_range (fun a b e => by subst e; exact .refl _) (fun H s => trivial) Rb hb keep f (by rw [irange_len]; exact hn) (fun a x H2 R hm s e hk hn => by rw [show x = .int a from e]; exact step a H2 R hm s hk hn) fin⟩
/-- {.. for .. in a tuple} -/
theorem dc_tup (N : Bool) [Enc α] (hsrc : ∀ R : V → Hp → Prop, R (.ref p) H1 → tl σ H R) (hl : GT K p xs l H1) (Rb : Rel β) (hb : StabD Rb) (keep : α → Bool) (key : α → Str) (f : α → β) (hn : l.length < sizeLine) (nd : ((l.filter keep).map key).Nodup)
    (step : ∀ (a : α) (x : V) (H2 : Hp) (R : Option (V × V) → Hp → Prop), a ∈ l → Same H1 H2 → At H2 a x → (∀ y H4, Same H2 H4 → keep a = true → Rb H4 (f a) y → (N = true → Fresh H2 H4 y) → R (some (.str (key a), y)) H4) → (∀ H4, Same H2 H4 → keep a = false → R none H4) →
      g x (wipe σ vs) H2 fun σ2 H3 => wipe σ2 vs = wipe σ vs ∧ tt σ2 H3 fun b H4 => if b = true then tk σ2 H4 (fun y H5 => tv σ2 H5 fun z H6 => R (some (y, z)) H6) else R none H4)
    (fin : ∀ D kvs H', H1 D = none → Same H1 H' → H' D = some (.dK kvs) → kvs.map (·.1) = (l.filter keep).map (fun a => (Sum.inr (key a) : Key)) → Paired (Rb H') ((l.filter keep).map f) (kvs.map (·.2)) → (N = true → (kvs.map (·.2)).Nodup) → Q (.ref D) H') : tDc (iTup K tl) g tt tk tv vs σ H Q :=
  hsrc _ ⟨p, rfl, ⟨xs, hl.1⟩, dc_pure N (Ra := RAt) (G := GT K p xs l) (C := Eq) src_tup (fun a b e => by subst e; exact .refl _) (fun H s => gt_same hl s) Rb hb keep key f hn nd step fin⟩
theorem dc_list (N : Bool) [Enc α] (hsrc : ∀ R : V → Hp → Prop, R (.ref p) H1 → tl σ H R) (hl : GL K p xs l H1) (Rb : Rel β) (hb : StabD Rb) (keep : α → Bool) (key : α → Str) (f : α → β) (hn : l.length < sizeLine) (nd : ((l.filter keep).map key).Nodup)
    (step : ∀ (a : α) (x : V) (H2 : Hp) (R : Option (V × V) → Hp → Prop), a ∈ l → Same H1 H2 → At H2 a x → (∀ y H4, Same H2 H4 → keep a = true → Rb H4 (f a) y → (N = true → Fresh H2 H4 y) → R (some (.str (key a), y)) H4) → (∀ H4, Same H2 H4 → keep a = false → R none H4) →
      g x (wipe σ vs) H2 fun σ2 H3 => wipe σ2 vs = wipe σ vs ∧ tt σ2 H3 fun b H4 => if b = true then tk σ2 H4 (fun y H5 => tv σ2 H5 fun z H6 => R (some (y, z)) H6) else R none H4)
    (fin : ∀ D kvs H', H1 D = none → Same H1 H' → H' D = some (.dK kvs) → kvs.map (·.1) = (l.filter keep).map (fun a => (Sum.inr (key a) : Key)) → Paired (Rb H') ((l.filter keep).map f) (kvs.map (·.2)) → (N = true → (kvs.map (·.2)).Nodup) → Q (.ref D) H') : tDc (iList K tl) g tt tk tv vs σ H Q :=
  hsrc _ ⟨p, rfl, ⟨xs, hl.1⟩, dc_pure N (Ra := RAt) (G := GL K p xs l) (C := Eq) src_list (fun a b e => by subst e; exact .refl _) (fun H s => gl_same hl s) Rb hb keep key f hn nd step fin⟩
theorem dc_items (N : Bool) (hsrc : ∀ R : V → Hp → Prop, R (.ref p) H1 → tl σ H R) (hl : H1 p = some (.frz o (.dK kvs))) (Rb : Rel β) (hb : StabD Rb) (keep : Key × V → Bool) (key : Key × V → Str) (f : Key × V → β) (hn : kvs.length < sizeLine) (nd : ((kvs.filter keep).map key).Nodup)
    (step : ∀ (a : Key × V) (x : V) (H2 : Hp) (R : Option (V × V) → Hp → Prop), a ∈ kvs → Same H1 H2 → RItem H2 a x → (∀ y H4, Same H2 H4 → keep a = true → Rb H4 (f a) y → (N = true → Fresh H2 H4 y) → R (some (.str (key a), y)) H4) → (∀ H4, Same H2 H4 → keep a = false → R none H4) →
      g x (wipe σ vs) H2 fun σ2 H3 => wipe σ2 vs = wipe σ vs ∧ tt σ2 H3 fun b H4 => if b = true then tk σ2 H4 (fun y H5 => tv σ2 H5 fun z H6 => R (some (y, z)) H6) else R none H4)
    (fin : ∀ D kvs' H', H1 D = none → Same H1 H' → H' D = some (.dK kvs') → kvs'.map (·.1) = (kvs.filter keep).map (fun a => (Sum.inr (key a) : Key)) → Paired (Rb H') ((kvs.filter keep).map f) (kvs'.map (·.2)) → (N = true → (kvs'.map (·.2)).Nodup) → Q (.ref D) H') : tDc (iItems tl) g tt tk tv vs σ H Q :=
  hsrc _ ⟨p, o, kvs, rfl, hl, dc_pure N (Ra := RItem) (C := Same) src_items (fun a b e => e) (fun H s => s _ _ hl) Rb hb keep key f hn nd step fin⟩
theorem lc_items (hsrc : ∀ R : V → Hp → Prop, R (.ref p) H1 → tl σ H R) (hl : H1 p = some (.frz o (.dK kvs))) (Rb : Rel β) (hb : Stab Rb) (keep : Key × V → Bool) (f : Key × V → β) (hn : kvs.length < sizeLine)
    (step : ∀ (a : Key × V) (x : V) (H2 : Hp) (R : Option V → Hp → Prop), a ∈ kvs → Same H1 H2 → RItem H2 a x → (∀ y H4, Same H2 H4 → keep a = true → Rb H4 (f a) y → R (some y) H4) → (∀ H4, Same H2 H4 → keep a = false → R none H4) →
      g x (wipe σ vs) H2 fun σ2 H3 => wipe σ2 vs = wipe σ vs ∧ tt σ2 H3 fun b H4 => if b = true then te σ2 H4 (fun y H5 => R (some y) H5) else R none H4)
    (fin : ∀ D ys H', H1 D = none → Same H1 H' → H' D = some (.lst ys) → Paired (Rb H') ((kvs.filter keep).map f) ys → Q (.ref D) H') : tLc (iItems tl) g tt te vs σ H Q :=
  hsrc _ ⟨p, o, kvs, rfl, hl, lc_pure (Ra := RItem) (C := Same) src_items (fun a b e => e) (fun H s => s _ _ hl) Rb hb keep f hn step fin⟩
theorem lc_keys (hsrc : ∀ R : V → Hp → Prop, R (.ref p) H1 → tl σ H R) (hl : H1 p = some (.frz o (.dK kvs))) (Rb : Rel β) (hb : Stab Rb) (keep : Key × V → Bool) (f : Key × V → β) (hn : kvs.length < sizeLine)
    (step : ∀ (a : Key × V) (H2 : Hp) (R : Option V → Hp → Prop), a ∈ kvs → Same H1 H2 → (∀ y H4, Same H2 H4 → keep a = true → Rb H4 (f a) y → R (some y) H4) → (∀ H4, Same H2 H4 → keep a = false → R none H4) →
      g (kV a.1) (wipe σ vs) H2 fun σ2 H3 => wipe σ2 vs = wipe σ vs ∧ tt σ2 H3 fun b H4 => if b = true then te σ2 H4 (fun y H5 => R (some y) H5) else R none H4)
    (fin : ∀ D ys H', H1 D = none → Same H1 H' → H' D = some (.lst ys) → Paired (Rb H') ((kvs.filter keep).map f) ys → Q (.ref D) H') : tLc (iKeys tl) g tt te vs σ H Q :=
  hsrc _ ⟨p, o, rfl, .inl ⟨kvs, hl, lc_pure (Ra := RKey) (C := Eq) src_keys (fun a b e => by subst e; exact .refl _) (fun H s => s _ _ hl) Rb hb keep f hn (fun a x H2 R hm s e hk hn => by rw [show x = kV a.1 from e]; exact step a H2 R hm s hk hn) fin⟩⟩
end
/-- x, with the heap H1 -/
def tK (x : V) (H1 : Hp) : TE := fun _ _ R => R x H1
section
variable {K : PySem.W.Frag} {H : Hp} {σ : L2.St} {g : TG} {tu : TS} {D : Ends} {tt : TT} {te tk tv : TE} {vs : List Nat} {Q : VK} {sp : Sp} {ds : List V} {E : XK} {ta : TA} {r : R2} {t1 t2 : TE}
theorem dcT_op : tDc (iTup K (tOp r t1 t2)) g tt tk tv vs σ H Q = (tOp r t1 t2) σ H fun x H1 => tDc (iTup K (tK x H1)) g tt tk tv vs σ H1 Q := rfl
theorem lcT_lit : tLc (iTup K (tTup ta)) g tt te vs σ H Q = tTup ta σ H fun x H1 => tLc (iTup K (tK x H1)) g tt te vs σ H1 Q := rfl
theorem forT_lit : tFor (iTup K (tTup ta)) g tu D σ H = tTup ta σ H fun x H1 => tFor (iTup K (tK x H1)) g tu D σ H1 := rfl
theorem lcL_call : tLc (iList K (tCall sp ds E ta)) g tt te vs σ H Q = (tCall sp ds E ta) σ H fun x H1 => tLc (iList K (tK x H1)) g tt te vs σ H1 Q := rfl
theorem forL_call : tFor (iList K (tCall sp ds E ta)) g tu D σ H = (tCall sp ds E ta) σ H fun x H1 => tFor (iList K (tK x H1)) g tu D σ H1 := rfl
theorem lcL_op : tLc (iList K (tOp r t1 t2)) g tt te vs σ H Q = (tOp r t1 t2) σ H fun x H1 => tLc (iList K (tK x H1)) g tt te vs σ H1 Q := rfl
theorem forL_op : tFor (iList K (tOp r t1 t2)) g tu D σ H = (tOp r t1 t2) σ H fun x H1 => tFor (iList K (tK x H1)) g tu D σ H1 := rfl
theorem lcL_dget : tLc (iList K (tDGet t1 t2)) g tt te vs σ H Q = (tDGet t1 t2) σ H fun x H1 => tLc (iList K (tK x H1)) g tt te vs σ H1 Q := rfl
theorem forL_dget : tFor (iList K (tDGet t1 t2)) g tu D σ H = (tDGet t1 t2) σ H fun x H1 => tFor (iList K (tK x H1)) g tu D σ H1 := rfl
theorem lcT_call : tLc (iTup K (tCall sp ds E ta)) g tt te vs σ H Q = (tCall sp ds E ta) σ H fun x H1 => tLc (iTup K (tK x H1)) g tt te vs σ H1 Q := rfl
theorem forT_call : tFor (iTup K (tCall sp ds E ta)) g tu D σ H = (tCall sp ds E ta) σ H fun x H1 => tFor (iTup K (tK x H1)) g tu D σ H1 := rfl
theorem lcT_op : tLc (iTup K (tOp r t1 t2)) g tt te vs σ H Q = (tOp r t1 t2) σ H fun x H1 => tLc (iTup K (tK x H1)) g tt te vs σ H1 Q := rfl
theorem forT_op : tFor (iTup K (tOp r t1 t2)) g tu D σ H = (tOp r t1 t2) σ H fun x H1 => tFor (iTup K (tK x H1)) g tu D σ H1 := rfl
theorem lcT_dget : tLc (iTup K (tDGet t1 t2)) g tt te vs σ H Q = (tDGet t1 t2) σ H fun x H1 => tLc (iTup K (tK x H1)) g tt te vs σ H1 Q := rfl
theorem forT_dget : tFor (iTup K (tDGet t1 t2)) g tu D σ H = (tDGet t1 t2) σ H fun x H1 => tFor (iTup K (tK x H1)) g tu D σ H1 := rfl
end
/-- a new list, dict, set is never changed any more -/
def tFrz (t : TE) : TE := fun σ H Q => t σ H fun v H1 => ∃ d u, v = .ref d ∧ H1 d = some u ∧ Mut (some u) ∧ ∀ od, Q v (upd H1 d (.frz od u))
section
variable {X : Cx} {e : Expr} {t : TE} {g : TG} {tu : TS} {D : Ends} {tt : TT} {te tk tv : TE} {vs : List Nat} {Q : VK} {σ : L2.St} {H : Hp}
theorem pe_frz (h : PE X e t) : PE X e (tFrz t) := by
  refine ⟨fun pins s σ H Q I hw => ?_⟩
  refine thn (h.run pins s σ H _ I hw) fun v s1 ⟨x, H1, I1, r, d, u, ex, hd, mu, q⟩ => ?_
  subst ex
  obtain ⟨od, I2⟩ := I1.lock hd mu
  exact ⟨.ref d, _, I2, r, q od⟩
theorem dcI_frz : tDc (iItems (tFrz t)) g tt tk tv vs σ H Q = tFrz t σ H fun x H1 => tDc (iItems (tK x H1)) g tt tk tv vs σ H1 Q := rfl
theorem lcI_frz : tLc (iItems (tFrz t)) g tt te vs σ H Q = tFrz t σ H fun x H1 => tLc (iItems (tK x H1)) g tt te vs σ H1 Q := rfl
theorem lcY_frz : tLc (iKeys (tFrz t)) g tt te vs σ H Q = tFrz t σ H fun x H1 => tLc (iKeys (tK x H1)) g tt te vs σ H1 Q := rfl
theorem lcI_call {sp : Sp} {ds : List V} {E : XK} {ta : TA} : tLc (iItems (tCall sp ds E ta)) g tt te vs σ H Q = tCall sp ds E ta σ H fun x H1 => tLc (iItems (tK x H1)) g tt te vs σ H1 Q := rfl
end
end G3
end

/-! ## G3Rules -/
section
set_option Elab.async false
set_option linter.all false
set_option maxRecDepth 100000
set_option maxHeartbeats 4000000
/-! The layer's rules with the written part as a letter of its own: so they stand within a comprehension's block too. -/
namespace G3
open PySem PySem.Spec PyProof.Rows L2
section
variable (K : PySem.W.Frag) {X : Cx}
theorem opInS (e : X.K = K := by rfl) : OpR X (compareOp .In) (rIn K false) := by subst e; exact op_in_seq
theorem opNotInS (e : X.K = K := by rfl) : OpR X (compareOp .NotIn) (rIn K true) := by subst e; exact op_notIn_seq
theorem opEqD (hu : X.A.units + 64 < cLine) (e : X.K = K := by rfl) : OpR X (compareOp .Eq) (rEqD K) := by subst e; exact op_eqD hu
theorem opNeD (hu : X.A.units + 64 < cLine) (e : X.K = K := by rfl) : OpR X (compareOp .NotEq) (rNeD K) := by subst e; exact op_neD hu
theorem ixT (e : X.K = K := by rfl) : IxR X (rIxT K) := by subst e; exact ix_tup
theorem ixL (e : X.K = K := by rfl) : IxR X (rIxL K) := by subst e; exact ix_list
theorem slT (e : X.K = K := by rfl) : SlR X (rSlA K) := by subst e; exact sl_tupA
theorem slL (e : X.K = K := by rfl) : SlR X (rSlL K) := by subst e; exact sl_list
theorem opCatT (e : X.K = K := by rfl) : OpR X (binaryOp .Add) (rCatA K) := by subst e; exact op_catA
theorem crAny (hc : X.calm = true) (e : X.K = K := by rfl) : CallR X (.builtin "any") (rAny K) := by subst e; exact cr_any hc
theorem crAll (hc : X.calm = true) (e : X.K = K := by rfl) : CallR X (.builtin "all") (rAll K) := by subst e; exact cr_all hc
theorem crSortedS (e : X.K = K := by rfl) : CallR X (.builtin "sorted") (rSortedS K) := by subst e; exact cr_sortedS
def rLenE (K : PySem.W.Frag) : List V → Hp → VK → Prop := fun xs H Q => ∃ x n, xs = [x] ∧ LenV K x H n ∧ Q (.int n) H
theorem crLen (e : X.K = K := by rfl) : CallR X (.builtin "len") (rLenE K) := by subst e; exact call_len
def rListOf (K : PySem.W.Frag) : List V → Hp → VK → Prop := fun xs H Q => ∃ p ys, xs = [.ref p] ∧ (SqL K H p ys ∨ SqT K H p ys) ∧ ∀ l, H l = none → Q (.ref l) (upd H l (.lst ys))
theorem crListOf (e : X.K = K := by rfl) : CallR X (.type "list") (rListOf K) := by subst e; exact call_list_of
def rTupOf (K : PySem.W.Frag) : List V → Hp → VK → Prop := fun xs H Q => ∃ p ys, xs = [.ref p] ∧ ((SqL K H p ys ∧ ∀ l, H l = none → Q (.ref l) (upd H l (.tup ys))) ∨ (SqT K H p ys ∧ Q (.ref p) H))
theorem crTupOf (e : X.K = K := by rfl) : CallR X (.type "tuple") (rTupOf K) := by subst e; exact call_tuple_of
theorem crIsi (e : X.K = K := by rfl) : CallR X (.builtin "isinstance") (rIsi K) := by subst e; exact call_isi
theorem piT {tg l : Expr} {tl : TE} (hl : PE X l tl) (e : X.K = K := by rfl) : PI X tg l (iTup K tl) := by subst e; exact pi_tup hl
theorem piL {tg l : Expr} {tl : TE} (hl : PE X l tl) (e : X.K = K := by rfl) : PI X tg l (iList K tl) := by subst e; exact pi_list hl
end
section
variable (K : PySem.W.Frag) {X : Cx} {a b e : Expr} {ta tb te : TE} {pos : Pos}
theorem eT (ha : PE X a ta) (hb : PE X b tb) (hs : PlainIx b := by exact fun _ _ => rfl) (e : X.K = K := by rfl) : PE X (.Subscript a b pos) (tOp (rIxT K) ta tb) := pe_ix (ixT K e) ha hb hs
theorem eL (ha : PE X a ta) (hb : PE X b tb) (hs : PlainIx b := by exact fun _ _ => rfl) (e : X.K = K := by rfl) : PE X (.Subscript a b pos) (tOp (rIxL K) ta tb) := pe_ix (ixL K e) ha hb hs
variable {p q : Pos}
theorem eLen (T : Bt X.mg) (ha : PE X a ta) (e : X.K = K := by rfl) (hg : Gl X "len" := by rfl) (hs : starEach [a] X.env = (false, eval a X.env) :: starEach [] X.env := by rfl) : PE X (.Call (.Name "len" p) [a] [] q) (fun σ H Q => ta σ H fun x H1 => rLenE K [x] H1 Q) :=
  pe_callB (crLen K e) hg T.len boot_len (pa_cons ha pa_nil hs) (by decide) (by decide) hs
theorem eTup (T : Bt X.mg) (ha : PE X a ta) (e : X.K = K := by rfl) (hg : Gl X "tuple" := by rfl) (hs : starEach [a] X.env = (false, eval a X.env) :: starEach [] X.env := by rfl) : PE X (.Call (.Name "tuple" p) [a] [] q) (fun σ H Q => ta σ H fun x H1 => rTupOf K [x] H1 Q) :=
  pe_callTy (crTupOf K e) hg T.tuple boot_tuple (pa_cons ha pa_nil hs) (by decide) (by decide) hs
theorem eAny (T : Bt X.mg) (hc : X.calm = true) (ha : PE X a ta) (e : X.K = K := by rfl) (hg : Gl X "any" := by rfl) (hs : starEach [a] X.env = (false, eval a X.env) :: starEach [] X.env := by rfl) : PE X (.Call (.Name "any" p) [a] [] q) (fun σ H Q => ta σ H fun x H1 => rAny K [x] H1 Q) :=
  pe_callB (crAny K hc e) hg T.any boot_any (pa_cons ha pa_nil hs) (by decide) (by decide) hs
theorem eAll (T : Bt X.mg) (hc : X.calm = true) (ha : PE X a ta) (e : X.K = K := by rfl) (hg : Gl X "all" := by rfl) (hs : starEach [a] X.env = (false, eval a X.env) :: starEach [] X.env := by rfl) : PE X (.Call (.Name "all" p) [a] [] q) (fun σ H Q => ta σ H fun x H1 => rAll K [x] H1 Q) :=
  pe_callB (crAll K hc e) hg T.all boot_all (pa_cons ha pa_nil hs) (by decide) (by decide) hs
theorem eSortS (T : Bt X.mg) (ha : PE X a ta) (e : X.K = K := by rfl) (hg : Gl X "sorted" := by rfl) (hs : starEach [a] X.env = (false, eval a X.env) :: starEach [] X.env := by rfl) : PE X (.Call (.Name "sorted" p) [a] [] q) (fun σ H Q => ta σ H fun x H1 => rSortedS K [x] H1 Q) :=
  pe_callB (crSortedS K e) hg T.sorted boot_sorted (pa_cons ha pa_nil hs) (by decide) (by decide) hs
theorem eDictF (T : Bt X.mg) (hc : X.calm = true) (ha : PE X a ta) (hg : Gl X "dict" := by rfl) (hs : starEach [a] X.env = (false, eval a X.env) :: starEach [] X.env := by rfl) : PE X (.Call (.Name "dict" p) [a] [] q) (fun σ H Q => ta σ H fun x H1 => rDictF [x] H1 Q) :=
  pe_callTy (call_dictF hc) hg T.dict boot_dict (pa_cons ha pa_nil hs) (by decide) (by decide) hs
theorem eIsi {n : Str} {m : String} {r : Pos} (T : Bt X.mg) (ha : PE X a ta) (hm : X.mg n = none) (hv : bootBuiltins n = some (.type m)) (e : X.K = K := by rfl) (hg : Gl X "isinstance" := by rfl) (hg2 : Gl X n := by rfl) (hs : starEach [a, .Name n r] X.env = (false, eval a X.env) :: starEach [.Name n r] X.env := by rfl)
    (hs2 : starEach [.Name n r] X.env = (false, eval (.Name n r) X.env) :: starEach [] X.env := by rfl) (hn : n ≠ "__name__" := by decide) (hd : (n == ("__debug__" : Str)) = false := by decide) (hpl : (backTo q (starEach [.Name n r] X.env)).any (·.1) = false := by rfl) :
    PE X (.Call (.Name "isinstance" p) [a, .Name n r] [] q) (fun σ H Q => ta σ H fun x H1 => rIsi K [x, .ty m] H1 Q) :=
  pe_callB (crIsi K e) hg T.isinstance boot_isinstance (pa_cons ha (pa_cons (pe_bltn (v := .ty m) hg2 hm hv rfl hn hd) pa_nil hs2) hs) (by decide) (by decide) hs hpl
end
section
variable {X : Cx}
/-- name = {..: .. for ..} on one line, the name a local -/
theorem ps_setDc {i : Nat} {y : Str} {py : Pos} {kx vx tg iter : Expr} {ifs : List Expr} {scope : Scope} {own : List (Str × Nat)} {pos spos : Pos} {wi : TI} {g : TG} {tt : TT} {tk tv : TE}
    (hc : X.calm = true) (hN : X.N.Nodup) (hy : X.N[i]? = some y) (hyl : X.env.scope.names.lookup y = some .local) (hsw : swapsWith (.DictComp kx vx [⟨tg, iter, ifs, 0⟩] scope pos) (some (.Name y py)) spos.line X.env = pure true)
    (hi : PI X tg iter wi) (ok : BlkOk X.N X.env.scope scope own)
    (hg : ∀ (s : Shared) (H : Hp) (C : Addr) (cl : List (Str × Addr)) (fp : List Addr), PG (X.blk s H scope (compEnvC scope cl C X.env) fp) tg g)
    (ht : ∀ (s : Shared) (H : Hp) (C : Addr) (cl : List (Str × Addr)) (fp : List Addr), PTs (X.blk s H scope (compEnvC scope cl C X.env) fp) ifs tt)
    (hk : ∀ (s : Shared) (H : Hp) (C : Addr) (cl : List (Str × Addr)) (fp : List Addr), PE (X.blk s H scope (compEnvC scope cl C X.env) fp) kx tk)
    (he : ∀ (s : Shared) (H : Hp) (C : Addr) (cl : List (Str × Addr)) (fp : List Addr), PE (X.blk s H scope (compEnvC scope cl C X.env) fp) vx tv)
    (hs : ∀ x, foldedSetIterable iter X.env x = pure x := by intro _; rfl) : PS X (.Assign [.Name y py] (.DictComp kx vx [⟨tg, iter, ifs, 0⟩] scope pos) spos) (tAsg (tDc wi g tt tk tv (own.map (·.2))) (gName i)) := by
  refine ⟨fun pins s σ H D I h => ?_⟩
  rw [exec_Assign_Name_used _ _ _ _ hsw]
  refine wpAny_bind (wpAny_standAt (wpAny_bind ?_))
  show wpAny _ X.A (do let _ ← comprehension (.DictComp kx vx [⟨tg, iter, ifs, 0⟩] scope pos) scope X.env (firstIterPos [⟨tg, iter, ifs, 0⟩] pos) newDict false (eval iter X.env) (some (assign (.Name y py) X.env))) _ _ s
  have h' : tDc wi g tt tk tv (own.map (·.2)) σ H (fun x H1 => gName i x σ H1 D.nx) := h
  refine wpAny_bind (thn (dc_core (Qf := fun _ s' => SP X pins D .next s') hc hN I hi ok hg ht hk he hs h' fun L C s' m H' I' q hn f => ?_) fun _ s' hq => wpAny_pure (wpAny_pure hq))
  show wpAny _ _ (assign (.Name y py) X.env (.ref L)) _ _ _
  refine wpAny_assign_Name (store_ok2 (v := V.ref L) I' hN hy (.inl hyl) rfl (fun s2 I2 ⟨a, sb, ha⟩ => ?_) (.inr hyl))
  obtain ⟨f0, f1, f2, f3, f4, f5⟩ := f
  have haC : C ≠ a := by
    rcases ha with z | z
    · rw [z]; exact f1
    · exact fun e => f4 y a z e.symm
  exact ⟨m, hn.sameBut sb haC, fun h3 sb3 => ⟨_, H', I2.turned (t' := s2.toks) (fun b o hb e => (sb3.2 b hb).trans e) f0 f1 f3 f4 f5, q⟩⟩
theorem sw_trueD {kx vx : Expr} {gs : List Comprehension} {scope : Scope} {pos py : Pos} {y : Str} {l : Nat} {env : Env} (hk : env.scope.kind = .function) (hy : env.scope.names.lookup y = some .local) (hl : (py.line == pos.line) = true)
    (ha : (scope.names.any fun (n, k) => n == y && (k == .local || k == .cell)) = false) : swapsWith (.DictComp kx vx gs scope pos) (some (.Name y py)) l env = pure true := by
  have ky : env.kindOf y = some .local := hy
  have hb : env.blockKind = .function := by unfold Env.blockKind; rw [hk]; rfl
  unfold swapsWith
  simp only [hb, ky, ha, Expr.pos, hl]
  rfl
end
end G3
end

/-! ## G3Typed -/
section
set_option Elab.async false
set_option linter.all false
set_option maxRecDepth 100000
set_option maxHeartbeats 4000000
/-! Readings by typed data. -/
namespace G3
open PySem PySem.Spec PyProof.Rows L2
section
variable {CX : CXT} {P : Program} {w : World} {K : PySem.W.Frag} {mg : Str → Option Value} {base : Heap} {N : List Str} {qual : Str} {scope : Scope} {f : Addr} {cd : Value} {A : Around} {outer : List Env} {s : Shared} {H : Hp} {E : XK}
theorem cxOf_K : (cxOf CX P w K mg base N qual scope f cd A outer s H E).K = K := rfl
end
theorem wipe_nil (σ : L2.St) : wipe σ [] = σ := rfl
theorem wipe_cons (σ : L2.St) (i : Nat) (l : List Nat) : wipe σ (i :: l) = (wipe σ l).set i none := rfl
theorem start_eq (N : List Str) (vs : List V) : L2.start N vs = vs.map some ++ List.replicate (N.length - vs.length) none := rfl
theorem ex_eq {α : Type} {p : α → Prop} {a : α} : (∃ b, a = b ∧ p b) ↔ p a := exists_eq_left'
theorem ex_l1 {α : Type} {p : α → Prop} {a : α} : (∃ b, [a] = [b] ∧ p b) ↔ p a := ⟨fun ⟨b, e, h⟩ => by cases e; exact h, fun h => ⟨a, rfl, h⟩⟩
theorem ex_l2 {α : Type} {p : α → α → Prop} {a b : α} : (∃ c d, [a, b] = [c, d] ∧ p c d) ↔ p a b := ⟨fun ⟨c, d, e, h⟩ => by cases e; exact h, fun h => ⟨a, b, rfl, h⟩⟩
theorem ex_l3 {α : Type} {p : α → α → α → Prop} {a b z : α} : (∃ c d e, [a, b, z] = [c, d, e] ∧ p c d e) ↔ p a b z := ⟨fun ⟨c, d, e, q, h⟩ => by cases q; exact h, fun h => ⟨a, b, z, rfl, h⟩⟩
theorem dec_ini {a : Int} {l : List Int} : inV (.int a) (l.map V.int) = decide (a ∈ l) := by
  unfold inV
  induction l with
  | nil => simp
  | cons b l ih =>
    rw [List.map_cons, List.any_cons, ih]
    by_cases e : b = a
    · subst e; simp [eqV]
    · have e' : ¬ a = b := fun z => e z.symm
      simp [eqV, e, e']
theorem dec_ins {a : Str} {l : List Str} : inV (.str a) (l.map V.str) = decide (a ∈ l) := by
  unfold inV
  induction l with
  | nil => simp
  | cons b l ih =>
    rw [List.map_cons, List.any_cons, ih]
    by_cases e : b = a
    · subst e; simp [eqV]
    · have e' : ¬ a = b := fun z => e z.symm
      simp [eqV, e, e']
theorem flat_ints {l : List Int} : (l.map V.int).all flatV = true := by simp [flatV]
theorem flat_strs {l : List Str} : (l.map V.str).all flatV = true := by simp [flatV]
theorem ite_neg {c : Bool} {a b : Bool} : (if true = true then a else b) = a := if_pos rfl
section
variable {α β : Type} [Enc α] [Enc β] {K : PySem.W.Frag} {H : Hp} {Q : VK} {v w x : V} {a : α} {b : β} {D : Addr} {ys : List V}
theorem r_inI {l : List Int} {z : Int} (h : At H l w) (q : Q (.bl (decide (z ∈ l))) H) : rIn K false (.int z) w H Q := by
  obtain ⟨p, xs, rfl, hp, hx⟩ := h
  rw [al_int.mp hx] at hp
  refine ⟨p, _, rfl, .inr (.inl hp), rfl, flat_ints, ?_⟩
  rw [if_neg Bool.false_ne_true, dec_ini]
  exact q
theorem r_inS {l : List Str} {z : Str} (h : At H l w) (q : Q (.bl (decide (z ∈ l))) H) : rIn K false (.str z) w H Q := by
  obtain ⟨p, e, hp⟩ := at_strs.mp h
  subst e
  refine ⟨p, _, rfl, .inr (.inl hp), rfl, flat_strs, ?_⟩
  rw [if_neg Bool.false_ne_true, dec_ins]
  exact q
theorem r_inLS {l : List Str} {z : Str} {p : Addr} (h : SqL K H p (l.map V.str)) (q : Q (.bl (decide (z ∈ l))) H) : rIn K false (.str z) (.ref p) H Q := by
  refine ⟨p, _, rfl, .inl h, rfl, flat_strs, ?_⟩
  rw [if_neg Bool.false_ne_true, dec_ins]
  exact q
theorem r_notInLS {l : List Str} {z : Str} {p : Addr} (h : SqL K H p (l.map V.str)) (q : Q (.bl (!decide (z ∈ l))) H) : rIn K true (.str z) (.ref p) H Q := by
  refine ⟨p, _, rfl, .inl h, rfl, flat_strs, ?_⟩
  rw [if_pos rfl, dec_ins]
  exact q
theorem r_notInS {l : List Str} {z : Str} (h : At H l w) (q : Q (.bl (!decide (z ∈ l))) H) : rIn K true (.str z) w H Q := by
  obtain ⟨p, e, hp⟩ := at_strs.mp h
  subst e
  refine ⟨p, _, rfl, .inr (.inl hp), rfl, flat_strs, ?_⟩
  rw [if_pos rfl, dec_ins]
  exact q
theorem bools_of {bs : List Bool} (hp : Paired (RAt H) bs ys) : ys = bs.map V.bl := by
  induction hp with
  | nil => rfl
  | cons h t ih => rw [List.map_cons, ih, show _ = V.bl _ from h]
theorem strs_of {bs : List Str} (hp : Paired (RAt H) bs ys) : ys = bs.map V.str := by
  induction hp with
  | nil => rfl
  | cons h t ih => rw [List.map_cons, ih, show _ = V.str _ from h]
theorem r_any {bs : List Bool} (hD : H D = some (.lst ys)) (hp : Paired (RAt H) bs ys) (q : Q (.bl (bs.any id)) H) : rAny K [.ref D] H Q := by
  rw [bools_of hp] at hD
  exact ⟨D, bs, rfl, .of hD, q⟩
theorem r_all {bs : List Bool} (hD : H D = some (.lst ys)) (hp : Paired (RAt H) bs ys) (q : Q (.bl (bs.all id)) H) : rAll K [.ref D] H Q := by
  rw [bools_of hp] at hD
  exact ⟨D, bs, rfl, .of hD, q⟩
/-- tuple(a new list) -/
theorem r_tupL {l : List α} (hD : H D = some (.lst ys)) (hp : Paired (RAt H) l ys) (q : ∀ p, H p = none → At (upd H p (.tup ys)) l (.ref p) → Q (.ref p) (upd H p (.tup ys))) : rTupOf K [.ref D] H Q :=
  ⟨D, ys, rfl, .inl ⟨.of hD, fun p hp' => q p hp' (.new hp' (al_paired.mpr hp))⟩⟩
theorem r_lenT' {l : List α} (h : At H l v) (q : Q (.int l.length) H) : rLenE K [v] H Q := by
  obtain ⟨p, xs, rfl, e2, e3⟩ := h
  exact ⟨_, _, rfl, .inr ⟨xs, .inl e2, by rw [Al.len (l := l) e3]⟩, q⟩
theorem r_lenL {xs : List V} {p : Addr} (h : SqL K H p xs) (q : Q (.int xs.length) H) : rLenE K [.ref p] H Q := ⟨_, _, rfl, .inl ⟨xs, h, rfl⟩, q⟩
theorem g_pair {i j : Nat} {σ : L2.St} {R : L2.St → Hp → Prop} (h : At H (a, b) x) (k : ∀ y z, At H a y → At H b z → R ((σ.set i (some y)).set j (some z)) H) : gTup K 2 (gCons (gName i) (gCons (gName j) gNil)) x σ H R := by
  obtain ⟨p, y, z, rfl, hp, hy, hz⟩ := at_pair.mp h
  exact ⟨p, _, rfl, .inl hp, rfl, y, [z], rfl, z, [], rfl, rfl, k y z hy hz⟩
theorem g_item {i j : Nat} {σ : L2.St} {R : L2.St → Hp → Prop} {kv : Key × V} (h : RItem H kv x) (q : R ((σ.set i (some (kV kv.1))).set j (some kv.2)) H) : gTup K 2 (gCons (gName i) (gCons (gName j) gNil)) x σ H R := by
  obtain ⟨p, rfl, hp⟩ := h
  exact ⟨p, _, rfl, .of hp, rfl, _, _, rfl, _, _, rfl, rfl, q⟩
theorem tyx_tup {p : Addr} {xs : List V} (h : Rd H p (.tup xs)) : TyX K H (.ref p) (.type "tuple") := by
  rcases h with h | ⟨o, h⟩
  · exact .base (.tup h)
  · exact .fTuple h
theorem isiStr {x : Str} {Q : VK} (q : Q (.bl true) H) : rIsi K [.str x, .ty "str"] H Q := ⟨.str x, .ty "str", _, _, true, rfl, .ty "str", .base (.str x), kit_ty (by decide +kernel), q⟩
theorem isiTup {l : List α} (h : At H l v) (q : Q (.bl true) H) : rIsi K [v, .ty "tuple"] H Q := by
  obtain ⟨p, xs, rfl, e2, e3⟩ := h
  exact ⟨_, .ty "tuple", _, _, true, rfl, .ty "tuple", tyx_tup e2, kit_ty (by decide +kernel), q⟩
theorem isiPair (h : At H (a, b) v) (q : Q (.bl true) H) : rIsi K [v, .ty "tuple"] H Q := by
  obtain ⟨p, y, z, rfl, hp, hy, hz⟩ := at_pair.mp h
  exact ⟨_, .ty "tuple", _, _, true, rfl, .ty "tuple", tyx_tup hp, kit_ty (by decide +kernel), q⟩
end
theorem iteT' {c : Bool} {a b : Prop} (e : c = true) (h : a) : if c = true then a else b := by rw [if_pos e]; exact h
theorem iteF' {c : Bool} {a b : Prop} (e : c = false) (h : b) : if c = true then a else b := by rw [if_neg (by rw [e]; exact Bool.false_ne_true)]; exact h
theorem r_app {K : PySem.W.Frag} {H : Hp} {F : Addr} {xs : List V} {y : V} {Q : VK} (h : H F = some (.lst xs)) (hl : xs.length ≤ 1000) (q : Q .non (upd H F (.lst (xs ++ [y])))) : tyV K "list" (.ref F) H ∧ rAppend (.ref F) [y] H Q :=
  ⟨.inl ⟨rfl, _, .of h⟩, F, xs, y, rfl, rfl, h, small1000 hl, q⟩
theorem updN {H : Hp} {a b : Addr} {o : HO} (h : upd H a o b = none) : b ≠ a ∧ H b = none := by
  by_cases e : b = a
  · rw [e, upd_same] at h; cases h
  · rw [upd_ne e] at h; exact ⟨e, h⟩
theorem filter_true {α : Type} (l : List α) : l.filter (fun _ => true) = l := List.filter_eq_self.mpr fun _ _ => rfl
theorem small64 {n : Nat} (h : n ≤ 12) : n < sizeLine := Nat.lt_of_le_of_lt h (by decide)
end G3
end

/-! ## G3Cat -/
section
set_option Elab.async false
set_option linter.all false
set_option maxRecDepth 100000
set_option maxHeartbeats 4000000
local macro_rules | `(tactic| walk_at "nf") => `(tactic| simp only [L2.tRet, L2.tRetN, L2.tAndV, L2.tOrV, L2.tNotV, L2.tCB, L2.tCons, L2.tNil, L2.tVar, L2.tC, L2.tDIn, L2.tDNotIn, L2.tDGet, L2.tOp, L2.tUn, L2.tTest, L2.tB, L2.tIf, L2.tIfS, L2.tAnd, L2.tOr, L2.tNot, L2.tSeq, L2.tAsg, L2.gName, L2.tDrop, L2.tNext, L2.tCall, L2.tTup, L2.tLst, L2.tBM, L2.tBM0, L2.tSl, L2.tPart, L2.tNoPart, L2.sDPut, L2.tFld, L2.sFld, L2.tMeth, L2.tYes, L2.gTup, L2.gCons, L2.gNil, L2.tIsN, L2.tNotN, L2.tPar, L2.tDisp, L2.tPairs, L2.tDGet1, G3.lcL_call, G3.lcL_op, G3.lcL_dget, G3.lcT_call, G3.lcT_op, G3.lcT_dget, G3.forL_call, G3.forL_op, G3.forL_dget, G3.forT_call, G3.forT_op, G3.forT_dget, G3.ex_l1, G3.ex_l2, G3.ex_l3,
  G3.start_eq, G3.cxOf_K, G3.wipe_nil, G3.wipe_cons, List.map_cons, List.map_nil, List.nil_append, List.cons_append, List.append_nil, List.getElem?_cons_zero, List.getElem?_cons_succ, List.set_cons_zero, List.set_cons_succ, List.set_nil, List.length_cons, List.length_nil, List.replicate, Option.some.injEq, G3.ex_eq, Nat.reduceAdd, Nat.reduceSub, Nat.zero_add, List.replicate_succ, List.replicate_zero, true_and, if_true, if_false, Bool.false_eq_true, Nat.add_zero, Int.add_zero])
namespace G3
open PySem PySem.Spec PyProof.Rows L2
/-! ### mates -/
def vers (c : Cat) (n : Str) : List Int := (gv c n).getD []
def shares (a b : List Int) : Bool := b.any fun v => decide (v ∈ a)
def mates (c : Cat) (n : Str) : List Str := (c.filter fun p => shares (vers c n) p.2).map (·.1)
abbrev sHasRelease : Stmt := top 13
abbrev sCheckRelease : Stmt := top 14
abbrev sMates : Stmt := top 15
theorem scHR : FnScope ["catalog", "value"] ["catalog", "value"] (defScope sHasRelease) := ⟨rfl, rfl, rfl, by decide +kernel, rfl, by decide +kernel, by decide +kernel⟩
theorem scCR : FnScope ["catalog", "value"] ["catalog", "value"] (defScope sCheckRelease) := ⟨rfl, rfl, rfl, by decide +kernel, rfl, by decide +kernel, by decide +kernel⟩
theorem scMates : FnScope ["catalog", "name", "versions", "other", "its", "version"] ["catalog", "name"] (defScope sMates) := ⟨rfl, rfl, rfl, by decide +kernel, rfl, by decide +kernel, by decide +kernel⟩
def spHasRelease : Sp := fun vs H Q _ => ∃ (c : Cat) (v : V) (x : Str), vs = [v, .str x] ∧ CatAt H c v ∧ (c.map (·.1)).Nodup ∧ ∀ H', Same H H' → Q (.bl (decide (x ∈ c.map (·.1)))) H'
def spCheckRelease : Sp := fun vs H Q _ => ∃ (c : Cat) (v : V) (x : Str), vs = [v, .str x] ∧ CatAt H c v ∧ (c.map (·.1)).Nodup ∧ x ∈ c.map (·.1) ∧ ∀ H', Same H H' → Q .non H'
def spMates : Sp := fun vs H Q _ => ∃ (c : Cat) (v : V) (x : Str), vs = [v, .str x] ∧ CatAt H c v ∧ CatOk c ∧ x ∈ c.map (·.1) ∧ ∀ l H', Same H H' → H l = none → H' l = some (.lst ((mates c x).map V.str)) → Q (.ref l) H'
section
variable {P : Program} {w : World} {K : PySem.W.Frag} {mg : Str → Option Value} {base : Heap}
theorem ok_has_release (T : Bt mg) (F : St0 K mg "has_release" sHasRelease) : Df P w K mg base CX0 1 "has_release" ["catalog", "value"] spHasRelease := by
  refine F.ok0 scHR (fun vs H Q E h => ?_) (fun _ _ _ _ _ _ us hl => match us, hl with | [_, _], _ => rfl) fun f cdv A outer s H vs Q E hr h => ?_
  · obtain ⟨c, v, x, rfl, _⟩ := h
    rfl
  obtain ⟨c, v, x, rfl, hc, nd, q⟩ := h
  refine ⟨_, pss_one (ps_ret (pe_and (eIsi (m := "str") K T (pv 1) T.str boot_str) (pe_one (pe_cmp (pc_din (hu_of hr) (pv 1) (eDictF T rfl (pv 0))))))), ?_⟩
  walk_at "nf"
  refine ⟨.str x, .ty "str", _, _, true, rfl, .ty "str", .base (.str x), kit_ty (by decide +kernel), true, rfl, iteT ?_⟩
  refine r_dictCat hc nd fun p vs hp hv => ?_
  refine ⟨p, _, rfl, DGet.k (k := Sum.inr x) upd_same, ?_⟩
  have e : (valV (catK c vs) (.inr x)).isSome = decide (x ∈ c.map (·.1)) := by
    rw [← gv_isSome]
    obtain ⟨k1, k2⟩ := catK_get x hv
    cases e : gv c x with
    | none => rw [k2 e]; rfl
    | some b => obtain ⟨w, e1, _⟩ := k1 b e; rw [e1]; rfl
  rw [e]
  exact q _ (Same.new hp)
theorem ok_check_release (F : St0 K mg "check_release" sCheckRelease) (G : Df P w K mg base CX0 1 "has_release" ["catalog", "value"] spHasRelease) : Df P w K mg base CX0 2 "check_release" ["catalog", "value"] spCheckRelease := by
  refine F.ok0 scCR (fun vs H Q E h => ?_) (fun _ _ _ _ _ _ us hl => match us, hl with | [_, _], _ => rfl) fun f cdv A outer s H vs Q E hr h => ?_
  · obtain ⟨c, v, x, rfl, _⟩ := h
    rfl
  obtain ⟨c, v, x, rfl, hc, nd, hx, q⟩ := h
  refine ⟨_, pss_one (ps_if (pt_not (pt_val (pe_df G hr pass0 (pa_cons (pv 0) (pa_cons (pv 1) pa_nil))))) pss_never pss_nil), ?_⟩
  walk_at "nf"
  refine ⟨c, v, x, rfl, hc, nd, fun H' s => ?_⟩
  rw [decide_eq_true hx]
  exact ⟨true, rfl, iteF (q _ s)⟩
theorem ok_mates (T : Bt mg) (F : St0 K mg "mates" sMates) : Df P w K mg base CX0 1 "mates" ["catalog", "name"] spMates := by
  refine F.ok0 scMates (fun vs H Q E h => ?_) (fun _ _ _ _ _ _ us hl => match us, hl with | [_, _], _ => rfl) fun f cdv A outer s H vs Q E hr h => ?_
  · obtain ⟨c, v, x, rfl, _⟩ := h
    rfl
  obtain ⟨c, v, x, rfl, hc, ok, hx, q⟩ := h
  refine ⟨_, pss_cons (ps_set (i := 2) scMates.nd rfl (Or.inr rfl) (pe_dget (hu_of hr) (eDictF T rfl (pv 0)) (pv 1) (fun _ _ => rfl)))
    (pss_one (ps_ret (pe_lc (own := [("other", 3), ("its", 4)]) (g := gTup K 2 (gCons (gName 3) (gCons (gName 4) gNil))) rfl scMates.nd (piT K (pv 0)) (blkOk_by (by rfl))
      (fun _ _ _ _ _ => pg_tup rfl (pgs_cons (pg_name (i := 3) scMates.nd rfl (Or.inl rfl)) (pgs_cons (pg_name (i := 4) scMates.nd rfl (Or.inl rfl)) pgs_nil)))
      (fun _ _ _ _ _ => pts_one (pt_val (eAny K T rfl (pe_lc (own := [("version", 5)]) (g := gName 5) rfl scMates.nd (piT K (pv 4)) (blkOk_by (by rfl))
        (fun _ _ _ _ _ => pg_name (i := 5) scMates.nd rfl (Or.inl rfl)) (fun _ _ _ _ _ => pts_nil) (fun _ _ _ _ _ => pe_cmpR (opInS K) (pv 5) (pv 2) rfl)))))
      (fun _ _ _ _ _ => pv 3)))), ?_⟩
  walk_at "nf"
  refine r_dictCat hc ok.nd fun p vs hp hv => ?_
  obtain ⟨b, hb⟩ : ∃ b, gv c x = some b := by
    cases e : gv c x with
    | none => exact absurd hx (gv_none.mp e)
    | some b => exact ⟨b, rfl⟩
  obtain ⟨v1, e1, hv1⟩ := (catK_get x hv).1 b hb
  have ev : vers c x = b := by unfold vers; rw [hb]; rfl
  refine ⟨p, v1, rfl, by rw [← e1]; exact DGet.k (k := Sum.inr x) upd_same, ?_⟩
  obtain ⟨a, o, xs, rfl, ha, hd, hal⟩ := hc.same (Same.new hp)
  refine lc_tup (fun R h => ⟨_, rfl, h⟩) ⟨.inl (.inr ⟨o, ha⟩), hal⟩ RAt stab_at (fun q => shares b q.2) (·.1) (small64 ok.len) (fun q y H2 R hq s2 hy keep drop => ?_) fun D ys H' hD s2 hD' hp' => ?_
  · refine g_pair (a := q.1) (b := q.2) hy fun y1 y2 h1 h2 => ⟨rfl, ?_⟩
    walk_at "nf"
    obtain ⟨p2, xs2, rfl, hp2, hx2⟩ := at_list.mp h2
    refine lc_tup (fun R h => ⟨_, rfl, h⟩) ⟨.inl hp2, hx2⟩ RAt stab_at (fun _ => true) (fun v => decide (v ∈ b)) (ok.lens q hq) (fun z y H3 R3 hz s3 hy keep3 drop3 => ?_) fun D ys H' hD s4 hD' hp' => ?_
    · rw [at_int.mp hy]
      refine ⟨rfl, ?_⟩
      walk_at "nf"
      exact (r_inI (hv1.same (((Same.new hp).trans s2).trans s3)) (keep3 _ _ (.refl _) rfl rfl))
    · refine r_any hD' hp' ?_
      rw [filter_true, List.any_map]
      refine ⟨_, rfl, ?_⟩
      by_cases e : shares b q.2 = true
      · exact iteT' e (keep _ _ s4 e (h1.same s4))
      · exact iteF' (Bool.not_eq_true _ ▸ e) (drop _ s4 (Bool.not_eq_true _ ▸ e))
  · rw [strs_of hp'] at hD'
    rw [← ev] at hD'
    exact q D H' ((Same.new hp).trans s2) ((Same.new hp).free hD) hD'
end
end G3
end

/-! ## G3Bfs -/
section
set_option Elab.async false
set_option linter.all false
set_option maxRecDepth 100000
set_option maxHeartbeats 4000000
/-! Levels from a start, in plain Lean. -/
namespace G3
open PySem PySem.Spec PyProof.Rows L2
theorem mates_iff {c : Cat} (ok : CatOk c) {n m : Str} : m ∈ mates c n ↔ m ∈ c.map (·.1) ∧ ∃ v, v ∈ vers c n ∧ v ∈ vers c m := by
  unfold mates
  rw [List.mem_map]
  constructor
  · rintro ⟨p, hp, rfl⟩
    obtain ⟨h1, h2⟩ := List.mem_filter.mp hp
    have e : vers c p.1 = p.2 := by unfold vers; rw [gv_mem ok.nd (show (p.1, p.2) ∈ c from h1)]; rfl
    unfold shares at h2
    obtain ⟨v, hv, hd⟩ := List.any_eq_true.mp h2
    exact ⟨List.mem_map.mpr ⟨p, h1, rfl⟩, v, of_decide_eq_true hd, by rw [e]; exact hv⟩
  · rintro ⟨h1, v, h2, h3⟩
    obtain ⟨p, hp, rfl⟩ := List.mem_map.mp h1
    have e : vers c p.1 = p.2 := by unfold vers; rw [gv_mem ok.nd (show (p.1, p.2) ∈ c from hp)]; rfl
    refine ⟨p, List.mem_filter.mpr ⟨hp, ?_⟩, rfl⟩
    rw [e] at h3
    exact List.any_eq_true.mpr ⟨v, h3, decide_eq_true h2⟩
theorem mates_sym {c : Cat} (ok : CatOk c) {n m : Str} (hn : n ∈ c.map (·.1)) (h : m ∈ mates c n) : n ∈ mates c m := by
  obtain ⟨_, v, h1, h2⟩ := (mates_iff ok).mp h
  exact (mates_iff ok).mpr ⟨hn, v, h2, h1⟩
theorem mates_sub {c : Cat} {n m : Str} (h : m ∈ mates c n) : m ∈ c.map (·.1) := by
  unfold mates at h
  obtain ⟨p, hp, rfl⟩ := List.mem_map.mp h
  exact List.mem_map.mpr ⟨p, (List.mem_filter.mp hp).1, rfl⟩
theorem mates_self {c : Cat} (ok : CatOk c) {n : Str} (hn : n ∈ c.map (·.1)) : n ∈ mates c n := by
  obtain ⟨p, hp, rfl⟩ := List.mem_map.mp hn
  have e : vers c p.1 = p.2 := by unfold vers; rw [gv_mem ok.nd (show (p.1, p.2) ∈ c from hp)]; rfl
  cases q : p.2 with
  | nil => exact absurd q (ok.ne p hp)
  | cons v r => exact (mates_iff ok).mpr ⟨hn, v, by rw [e, q]; simp, by rw [e, q]; simp⟩
theorem mates_len {c : Cat} {n : Str} : (mates c n).length ≤ c.length := by
  unfold mates
  rw [List.length_map]
  exact List.length_filter_le _ _
abbrev Tab := List (Str × Int)
/-- a table of levels, not yet closed -/
structure BF (c : Cat) (x : Str) (t : Tab) : Prop where
  nd : (t.map (·.1)).Nodup
  st : gv t x = some 0
  sub : ∀ p ∈ t, p.1 ∈ c.map (·.1)
  nn : ∀ p ∈ t, 0 ≤ p.2
  pre : ∀ n l, gv t n = some l → 0 < l → ∃ m, m ∈ mates c n ∧ gv t m = some (l - 1)
  z : ∀ n, gv t n = some 0 → n = x
/-- the levels of all that is reached from x -/
structure Levels (c : Cat) (x : Str) (t : Tab) : Prop extends BF c x t where
  cl : ∀ n l m, gv t n = some l → m ∈ mates c n → ∃ l', gv t m = some l' ∧ l' ≤ l + 1
theorem gv_append {κ β : Type} [DecidableEq κ] {l m : List (κ × β)} {k : κ} : gv (l ++ m) k = match gv l k with
    | some b => some b
    | none => gv m k := by
  induction l with
  | nil => rfl
  | cons p l ih =>
    rw [List.cons_append, gv_cons, gv_cons]
    by_cases e : p.1 = k
    · rw [if_pos e, if_pos e]
    · rw [if_neg e, if_neg e, ih]
theorem gv_app_old {κ β : Type} [DecidableEq κ] {l m : List (κ × β)} {k : κ} {b : β} (h : gv l k = some b) : gv (l ++ m) k = some b := by rw [gv_append, h]
theorem gv_app_new {κ β : Type} [DecidableEq κ] {l : List (κ × β)} {k : κ} {b : β} (h : gv l k = none) : gv (l ++ [(k, b)]) k = some b := by
  rw [gv_append, h]
  show gv [(k, b)] k = some b
  rw [gv_cons, if_pos rfl]
theorem gv_app_ne {κ β : Type} [DecidableEq κ] {l : List (κ × β)} {k j : κ} {b : β} (h : j ≠ k) : gv (l ++ [(j, b)]) k = gv l k := by
  rw [gv_append]
  cases e : gv l k with
  | some z => rfl
  | none => show gv [(j, b)] k = none; rw [gv_cons, if_neg h]; rfl
theorem gv_key {κ β : Type} [DecidableEq κ] {l : List (κ × β)} {k : κ} (h : k ∈ l.map (·.1)) : ∃ b, gv l k = some b := by
  cases e : gv l k with
  | some z => exact ⟨z, rfl⟩
  | none => exact absurd h (gv_none.mp e)
theorem key_of_gv {κ β : Type} [DecidableEq κ] {l : List (κ × β)} {k : κ} {b : β} (h : gv l k = some b) : k ∈ l.map (·.1) := List.mem_map.mpr ⟨_, gv_some h, rfl⟩
variable {c : Cat} {x : Str} {t : Tab}
theorem BF.start (hx : x ∈ c.map (·.1)) : BF c x [(x, 0)] where
  nd := by simp
  st := by rw [gv_cons, if_pos rfl]
  sub := fun p hp => by rw [List.mem_singleton.mp hp]; exact hx
  nn := fun p hp => by rw [List.mem_singleton.mp hp]; exact Int.le_refl 0
  pre := fun n l h hl => by
    have := gv_some h
    rw [List.mem_singleton] at this
    cases this
    omega
  z := fun n h => by
    have := gv_some h
    rw [List.mem_singleton] at this
    cases this
    rfl
theorem BF.add (b : BF c x t) (ok : CatOk c) {n m : Str} {k : Int} (hn : gv t n = some k) (hm : m ∈ mates c n) (h : gv t m = none) : BF c x (t ++ [(m, k + 1)]) where
  nd := by
    rw [List.map_append, List.nodup_append]
    refine ⟨b.nd, by simp, fun a ha z hz => ?_⟩
    rw [List.map_cons, List.map_nil, List.mem_singleton] at hz
    intro e
    rw [e, hz] at ha
    exact gv_none.mp h ha
  st := gv_app_old b.st
  sub := fun p hp => by
    rcases List.mem_append.mp hp with q | q
    · exact b.sub p q
    · rw [List.mem_singleton.mp q]; exact mates_sub hm
  nn := fun p hp => by
    rcases List.mem_append.mp hp with q | q
    · exact b.nn p q
    · rw [List.mem_singleton.mp q]
      have := b.nn _ (gv_some hn)
      show 0 ≤ k + 1
      omega
  pre := fun i l hi hl => by
    by_cases e : m = i
    · subst e
      rw [gv_app_new h] at hi
      cases hi
      refine ⟨n, mates_sym ok (b.sub _ (gv_some hn)) hm, gv_app_old ?_⟩
      rw [hn]; congr 1; omega
    · rw [gv_app_ne e] at hi
      obtain ⟨z, h1, h2⟩ := b.pre i l hi hl
      exact ⟨z, h1, gv_app_old h2⟩
  z := fun i hi => by
    by_cases e : m = i
    · subst e
      rw [gv_app_new h] at hi
      have := b.nn _ (gv_some hn)
      have e2 := Option.some.inj hi
      have e3 : (0 : Int) ≤ k := this
      omega
    · rw [gv_app_ne e] at hi
      exact b.z i hi
/-- Within a layer: t0 as the layer began, fo the next layer, done the names of this layer that are through -/
structure Lay (c : Cat) (x : Str) (k : Int) (t0 : Tab) (layer : List Str) (t : Tab) (fo : List Str) : Prop where
  bf : BF c x t
  old : ∀ n l, gv t0 n = some l → gv t n = some l
  ly : ∀ n ∈ layer, gv t n = some k
  fol : ∀ n ∈ fo, gv t n = some (k + 1)
  new : ∀ n l, gv t n = some l → gv t0 n = none → n ∈ fo
  le : ∀ n l, gv t n = some l → l ≤ k + 1
  cl : ∀ n l m, gv t0 n = some l → n ∉ layer → m ∈ mates c n → ∃ l', gv t m = some l' ∧ l' ≤ l + 1
  len : t.length = t0.length + fo.length
/-- at the head of the loop -/
structure Head (c : Cat) (x : Str) (t : Tab) (layer : List Str) (k : Int) : Prop where
  bf : BF c x t
  ly : ∀ n ∈ layer, gv t n = some k
  le : ∀ n l, gv t n = some l → l ≤ k
  cl : ∀ n l m, gv t n = some l → n ∉ layer → m ∈ mates c n → ∃ l', gv t m = some l' ∧ l' ≤ l + 1
theorem Head.first (hx : x ∈ c.map (·.1)) : Head c x [(x, 0)] [x] 0 where
  bf := .start hx
  ly := fun n hn => by rw [List.mem_singleton.mp hn]; exact (BF.start hx).st
  le := fun n l h => by
    have := gv_some h
    rw [List.mem_singleton] at this
    cases this
    exact Int.le_refl 0
  cl := fun n l m h hn _ => by
    have := gv_some h
    rw [List.mem_singleton] at this
    cases this
    exact absurd (List.mem_singleton.mpr rfl) hn
theorem Head.lay {layer : List Str} {k : Int} (h : Head c x t layer k) : Lay c x k t layer t [] where
  bf := h.bf
  old := fun n l e => e
  ly := h.ly
  fol := fun n hn => nomatch hn
  new := fun n l e e' => by rw [e] at e'; cases e'
  le := fun n l e => Int.le_trans (h.le n l e) (by omega)
  cl := h.cl
  len := by simp
theorem Lay.add {k : Int} {t0 : Tab} {layer fo : List Str} (h : Lay c x k t0 layer t fo) (ok : CatOk c) {n m : Str} (hn : n ∈ layer) (hm : m ∈ mates c n) (e : gv t m = none) : Lay c x k t0 layer (t ++ [(m, k + 1)]) (fo ++ [m]) where
  bf := h.bf.add ok (h.ly n hn) hm e
  old := fun n l q => gv_app_old (h.old n l q)
  ly := fun n q => gv_app_old (h.ly n q)
  fol := fun n q => by
    rcases List.mem_append.mp q with q | q
    · exact gv_app_old (h.fol n q)
    · rw [List.mem_singleton.mp q]; exact gv_app_new e
  new := fun n l q q0 => by
    by_cases en : m = n
    · subst en; simp
    · rw [gv_app_ne en] at q
      exact List.mem_append_left _ (h.new n l q q0)
  le := fun n l q => by
    by_cases en : m = n
    · subst en; rw [gv_app_new e] at q; cases q; exact Int.le_refl _
    · rw [gv_app_ne en] at q
      exact h.le n l q
  cl := fun n l m' q qn qm => by
    obtain ⟨l', e1, e2⟩ := h.cl n l m' q qn qm
    exact ⟨l', gv_app_old e1, e2⟩
  len := by rw [List.length_append, List.length_append, h.len]; simp; omega
/-- the layer is through -/
theorem Lay.next {k : Int} {t0 : Tab} {layer fo : List Str} (h : Lay c x k t0 layer t fo) (hd : ∀ n ∈ layer, ∀ m ∈ mates c n, ∃ l', gv t m = some l') : Head c x t fo (k + 1) where
  bf := h.bf
  ly := h.fol
  le := h.le
  cl := fun n l m q qn qm => by
    cases e : gv t0 n with
    | none => exact absurd (h.new n l q e) qn
    | some l0 =>
      have e2 := h.old n l0 e
      rw [q] at e2
      cases e2
      by_cases hl : n ∈ layer
      · obtain ⟨l', q'⟩ := hd n hl m qm
        have := h.ly n hl
        rw [q] at this
        cases this
        exact ⟨l', q', h.le m l' q'⟩
      · exact h.cl n l m e hl qm
theorem Head.levels {k : Int} (h : Head c x t [] k) : Levels c x t := ⟨h.bf, fun n l m q qm => h.cl n l m q (by simp) qm⟩
theorem nodup_len {α : Type} [DecidableEq α] : ∀ {l m : List α}, l.Nodup → (∀ a ∈ l, a ∈ m) → l.length ≤ m.length
  | [], m, _, _ => Nat.zero_le _
  | a :: l, m, nd, h => by
    rw [List.nodup_cons] at nd
    have ha : a ∈ m := h a (by simp)
    have := nodup_len (l := l) (m := m.erase a) nd.2 fun b hb => (List.mem_erase_of_ne (fun e => nd.1 (by rw [← e]; exact hb))).mpr (h b (by simp [hb]))
    rw [List.length_erase_of_mem ha] at this
    have hm : 0 < m.length := List.length_pos_of_mem ha
    rw [List.length_cons]
    omega
theorem BF.len (b : BF c x t) : t.length ≤ c.length := by
  have := nodup_len (m := c.map (·.1)) b.nd fun a ha => by
    obtain ⟨p, hp, rfl⟩ := List.mem_map.mp ha
    exact b.sub p hp
  simpa using this
/-- what is reached is reached back -/
theorem Levels.back {y : Str} {t' : Tab} (ok : CatOk c) (h : Levels c x t) (h' : Levels c y t') : ∀ (k : Nat) (n : Str), gv t n = some (k : Int) → (∃ l, gv t' n = some l) → ∃ l, gv t' x = some l
  | 0, n, hn, hl => by rw [← h.z n hn]; exact hl
  | k + 1, n, hn, ⟨l, hl⟩ => by
    obtain ⟨m, h1, h2⟩ := h.pre n _ hn (by omega)
    obtain ⟨l', e, _⟩ := h'.cl n l m hl h1
    exact Levels.back ok h h' k m (by rw [h2]; congr 1; omega) ⟨l', e⟩
theorem Levels.sym {y : Str} {t' : Tab} (ok : CatOk c) (h : Levels c x t) (h' : Levels c y t') {l : Int} (hy : gv t y = some l) : ∃ l, gv t' x = some l := by
  have hl : (0 : Int) ≤ l := h.nn _ (gv_some hy)
  exact h.back ok h' l.toNat y (by rw [hy]; congr 1; omega) ⟨0, h'.st⟩
/-- a way from x, of mates, down the table t -/
structure Way (c : Cat) (t : Tab) (x : Str) (fs : List Str) (z : Str) (l : Int) : Prop where
  first : fs[0]? = some x
  last : ∃ r, fs = r ++ [z]
  lz : gv t z = some l
  le : ∀ a ∈ fs, ∃ k, gv t a = some k ∧ l ≤ k
  nd : fs.Nodup
  ch : ∀ i a b, fs[i]? = some a → fs[i + 1]? = some b → b ∈ mates c a
theorem Way.start {x : Str} {l : Int} (h : gv t x = some l) : Way c t x [x] x l where
  first := rfl
  last := ⟨[], rfl⟩
  lz := h
  le := fun a ha => by rw [List.mem_singleton.mp ha]; exact ⟨l, h, Int.le_refl _⟩
  nd := by simp
  ch := fun i a b h1 h2 => by
    cases i with
    | zero => cases h2
    | succ i => cases h1
theorem Way.step {fs : List Str} {z m : Str} {l k : Int} (w : Way c t x fs z l) (hm : m ∈ mates c z) (h : gv t m = some k) (hk : k < l) : Way c t x (fs ++ [m]) m k := by
  obtain ⟨r, hr⟩ := w.last
  refine ⟨?_, ⟨fs, rfl⟩, h, fun a ha => ?_, ?_, fun i a b h1 h2 => ?_⟩
  · have := w.first
    rw [List.getElem?_append_left (by rw [hr]; simp)]
    exact this
  · rcases List.mem_append.mp ha with ha | ha
    · obtain ⟨j, e1, e2⟩ := w.le a ha
      exact ⟨j, e1, by omega⟩
    · rw [List.mem_singleton.mp ha]; exact ⟨k, h, Int.le_refl _⟩
  · rw [List.nodup_append]
    refine ⟨w.nd, by simp, fun a ha b hb e => ?_⟩
    rw [List.mem_singleton.mp hb] at e
    obtain ⟨j, e1, e2⟩ := w.le a ha
    rw [e, h] at e1
    cases e1
    omega
  · by_cases hi : i + 1 < fs.length
    · rw [List.getElem?_append_left (by omega)] at h1
      rw [List.getElem?_append_left hi] at h2
      exact w.ch i a b h1 h2
    · have hl : (fs ++ [m])[i + 1]? = some b := h2
      have hlt : i + 1 < (fs ++ [m]).length := (List.getElem?_eq_some_iff.mp hl).1
      rw [List.length_append, List.length_singleton] at hlt
      have e : i + 1 = fs.length := by omega
      rw [List.getElem?_append_right (by omega), e, Nat.sub_self] at h2
      cases h2
      rw [List.getElem?_append_left (by omega), hr, List.getElem?_append_right (by rw [hr] at e; simp at e; omega)] at h1
      have e3 : i - r.length = 0 := by rw [hr] at e; simp at e; omega
      rw [e3] at h1
      cases h1
      exact hm
/-- a way whose length is bounded by the levels of its first -/
theorem Way.levels {fs : List Str} {z : Str} {l : Int} {t' : Tab} (w : Way c t x fs z l) (h' : Levels c x t') : ∀ (i : Nat) (a : Str), fs[i]? = some a → ∃ k, gv t' a = some k ∧ k ≤ (i : Int) := by
  intro i
  induction i with
  | zero => intro a ha; rw [w.first] at ha; cases ha; exact ⟨0, h'.st, by omega⟩
  | succ i ih =>
    intro b hb
    have hlt : i + 1 < fs.length := (List.getElem?_eq_some_iff.mp hb).1
    obtain ⟨k, e1, e2⟩ := ih (fs[i]'(by omega)) (by simp [show i < fs.length by omega])
    obtain ⟨k', e3, e4⟩ := h'.cl _ k b e1 (w.ch i _ b (by simp [show i < fs.length by omega]) hb)
    exact ⟨k', e3, by push_cast; omega⟩
end G3
end

/-! ## G3Level -/
section
set_option Elab.async false
set_option linter.all false
set_option maxRecDepth 100000
set_option maxHeartbeats 4000000
local macro_rules | `(tactic| walk_at "nf") => `(tactic| simp only [L2.tRet, L2.tRetN, L2.tAndV, L2.tOrV, L2.tNotV, L2.tCB, L2.tCons, L2.tNil, L2.tVar, L2.tC, L2.tDIn, L2.tDNotIn, L2.tDGet, L2.tOp, L2.tUn, L2.tTest, L2.tB, L2.tIf, L2.tIfS, L2.tAnd, L2.tOr, L2.tNot, L2.tSeq, L2.tAsg, L2.gName, L2.tDrop, L2.tNext, L2.tCall, L2.tTup, L2.tLst, L2.tBM, L2.tBM0, L2.tSl, L2.tPart, L2.tNoPart, L2.sDPut, L2.tFld, L2.sFld, L2.tMeth, L2.tYes, L2.gTup, L2.gCons, L2.gNil, L2.tIsN, L2.tNotN, L2.tPar, L2.tDisp, L2.tPairs, L2.tDGet1, G3.lcL_call, G3.lcL_op, G3.lcL_dget, G3.lcT_call, G3.lcT_op, G3.lcT_dget, G3.forL_call, G3.forL_op, G3.forL_dget, G3.forT_call, G3.forT_op, G3.forT_dget, G3.ex_l1, G3.ex_l2, G3.ex_l3,
  G3.start_eq, G3.cxOf_K, G3.wipe_nil, G3.wipe_cons, List.map_cons, List.map_nil, List.nil_append, List.cons_append, List.append_nil, List.getElem?_cons_zero, List.getElem?_cons_succ, List.set_cons_zero, List.set_cons_succ, List.set_nil, List.length_cons, List.length_nil, List.replicate, Option.some.injEq, G3.ex_eq, Nat.reduceAdd, Nat.reduceSub, Nat.zero_add, List.replicate_succ, List.replicate_zero, true_and, if_true, if_false, Bool.false_eq_true, Nat.add_zero, Int.add_zero])
namespace G3
open PySem PySem.Spec PyProof.Rows L2
/-- a dict with text keys -/
def strK {β : Type} (f : β → V) (t : List (Str × β)) : List (Key × V) := t.map fun p => (Sum.inr p.1, f p.2)
section
variable {β : Type} {f : β → V} {t : List (Str × β)} {n : Str} {b : β}
theorem strK_get : valV (strK f t) (.inr n) = (gv t n).map f := by
  induction t with
  | nil => rfl
  | cons p t ih =>
    show valV ((Sum.inr p.1, f p.2) :: strK f t) (.inr n) = _
    rw [valV_gv, gv_cons, gv_cons]
    by_cases e : p.1 = n
    · rw [if_pos e, if_pos (by rw [e])]; rfl
    · rw [if_neg e, if_neg (fun z => e (Sum.inr.inj z)), ← ih]; rfl
theorem strK_new (h : gv t n = none) : putK (strK f t) (.inr n) (f b) = strK f (t ++ [(n, b)]) := by
  rw [putK_new _ (by rw [strK_get, h]; rfl)]
  unfold strK
  rw [List.map_append]
  rfl
theorem strK_len : (strK f t).length = t.length := by unfold strK; simp
end
theorem r_neNil {α : Type} [Enc α] {K : PySem.W.Frag} {H : Hp} {l : List α} {p q : Addr} {xs : List V} {Q : VK} (h : SqL K H p xs) (hx : Al H l xs) (hq : H q = some (.lst [])) (o : ∀ a ∈ l, Enc.ok a) (r : Q (.bl (!l.isEmpty)) H) (hd : Enc.dep α ≤ 60 := by decide) : rNeD K (.ref p) (.ref q) H Q := by
  refine ⟨.list (l.map Enc.enc), .list [], .lst h (IsL.dp _ _ hx), .lst (.of hq) .nil, ?_, rfl, ?_⟩
  · unfold SeqAt.shaped
    rw [canL l o, Bool.true_and]
    refine decide_eq_true ?_
    have := depAll l
    simp only [PyData.depth]
    omega
  · cases l with
    | nil => exact r
    | cons a l => exact r
abbrev sLevelTable : Stmt := top 16
theorem scLT : FnScope ["catalog", "start", "found", "layer", "following", "name", "mate"] ["catalog", "start"] (defScope sLevelTable) := ⟨rfl, rfl, rfl, by decide +kernel, rfl, by decide +kernel, by decide +kernel⟩
def spLevelTable : Sp := fun vs H Q _ => ∃ (c : Cat) (v : V) (x : Str), vs = [v, .str x] ∧ CatAt H c v ∧ CatOk c ∧ x ∈ c.map (·.1) ∧ ∀ d t H', Same H H' → H d = none → H' d = some (.dK (strK V.int t)) → Levels c x t → Q (.ref d) H'
/-- what holds at the head of level_table's loop -/
def LtInv (H : Hp) (c : Cat) (v : V) (x : Str) (d : Addr) (m : Nat) (σ : L2.St) (H' : Hp) : Prop := ∃ (t : Tab) (layer : List Str) (k : Int) (u4 u5 u6 : Option V) (L : Addr), σ = [some v, some (.str x), some (.ref d), some (.ref L), u4, u5, u6] ∧ H' d = some (.dK (strK V.int t)) ∧
  H' L = some (.lst (layer.map V.str)) ∧ H L = none ∧ Same H H' ∧ Head c x t layer k ∧ m = 2 * (13 - t.length) + (if layer = [] then 0 else 1)
theorem names_ok {c : Cat} (ok : CatOk c) {n : Str} (h : n ∈ c.map (·.1)) : Enc.ok n := by
  obtain ⟨p, hp, rfl⟩ := List.mem_map.mp h
  exact (ok.ok p hp).1
theorem DGet.str {β : Type} {f : β → V} {H : Hp} {d : Addr} {t : List (Str × β)} {n : Str} (h : H d = some (.dK (strK f t))) : DGet H d (.str n) ((gv t n).map f) := by
  have := DGet.k (k := Sum.inr n) h
  rw [strK_get] at this
  exact this
theorem DGet.strS {β : Type} {f : β → V} {H : Hp} {d : Addr} {t : List (Str × β)} {n : Str} {b : β} (h : H d = some (.dK (strK f t))) (e : gv t n = some b) : DGet H d (.str n) (some (f b)) := by
  have := DGet.str (n := n) h
  rw [e] at this
  exact this
section
variable {P : Program} {w : World} {K : PySem.W.Frag} {mg : Str → Option Value} {base : Heap}
theorem ok_level_table (G : Df P w K mg base CX0 1 "mates" ["catalog", "name"] spMates) (F : St0 K mg "level_table" sLevelTable) : Df P w K mg base CX0 2 "level_table" ["catalog", "start"] spLevelTable := by
  refine F.ok0 scLT (fun vs H Q E h => ?_) (fun _ _ _ _ _ _ us hl => match us, hl with | [_, _], _ => rfl) fun f cdv A outer s H vs Q E hr h => ?_
  · obtain ⟨c, v, x, rfl, _⟩ := h
    rfl
  obtain ⟨c, v, x, rfl, hc, ok, hx, q⟩ := h
  refine ⟨_, pss_cons (ps_par (i := 2) (j := 3) rfl scLT.nd rfl rfl (by decide) rfl rfl (pa_cons (pe_disp (pps_cons (pv 1) pe_int pps_nil) rfl rfl (by simp) (by decide)) (pa_cons (pe_lst (pa_cons (pv 1) pa_nil)) pa_nil)) rfl)
    (pss_cons (ps_while PassesOwn.never (pt_cmpR (opNeD K hr.units) (pv 3) (pe_lst pa_nil) (nomark _))
      (pss_cons (ps_set (i := 4) scLT.nd rfl (Or.inl rfl) (pe_lst pa_nil))
      (pss_cons (ps_for PassesOwn.never rfl (piL K (pv 3)) (pg_name (i := 5) scLT.nd rfl (Or.inl rfl))
        (pss_one (ps_for PassesOwn.never rfl (piL K (pe_df G hr pass0 (pa_cons (pv 0) (pa_cons (pv 5) pa_nil)))) (pg_name (i := 6) scLT.nd rfl (Or.inl rfl))
          (pss_one (ps_if (pt_cmp (pc_dnotin (hu_of hr) (pv 6) (pv 2)))
            (pss_cons (ps_dput (hu_of hr) (pv 2) (pv 6) (pe_op op_add (pe_dget (hu_of hr) (pv 2) (pv 5) (fun _ _ => rfl)) pe_int) rfl)
            (pss_one (ps_expr (pe_bm PySem.F.plainAttrs_list PySem.F.slot_list_append PySem.F.type_list_append mt_append (pv 4) (pa_cons (pv 6) pa_nil))))) pss_nil)))))
      (pss_one (ps_set (i := 3) scLT.nd rfl (Or.inl rfl) (pv 4))))))
    (pss_one (ps_ret (pv 2)))), ?_⟩
  walk_at "nf"
  intro d hd
  refine ⟨upd_same, [(Sum.inr x, .int 0)], rfl, by simp, by decide, fun L hL => ?_⟩
  have hdL : L ≠ d := fun e => by rw [e, upd_same] at hL; cases hL
  have hLn : H L = none := by rw [upd_ne hdL, upd_ne hdL] at hL; exact hL
  refine ⟨LtInv H c v x d, ⟨_, [(x, 0)], [x], 0, none, none, none, L, rfl, ?_, upd_same, hLn, ?_, .first hx, rfl⟩, ?_⟩
  · rw [upd_ne (Ne.symm hdL), upd_same]; rfl
  · exact (((Same.refl H).put hd).put hd).put hLn
  rintro m σ H1 ⟨t, layer, k, u4, u5, u6, L, rfl, h1, h2, hLn, s1, hh, rfl⟩
  walk_at "nf"
  have hok : ∀ n ∈ layer, n ∈ c.map (·.1) := fun n hn => by
    have := gv_some (hh.ly n hn)
    exact hh.bf.sub _ this
  refine ⟨by decide, fun e he => r_neNil (l := layer) (.of (show upd H1 e _ L = _ by rw [upd_ne (ne_of_none h2 he)]; exact h2)) (al_str.mpr rfl) upd_same (fun n hn => names_ok ok (hok n hn)) ⟨_, rfl, ?_⟩⟩
  have h1e : upd H1 e (.lst []) d = some (.dK (strK V.int t)) := by rw [upd_ne (ne_of_none h1 he)]; exact h1
  have h2e : upd H1 e (.lst []) L = some (.lst (layer.map V.str)) := by rw [upd_ne (ne_of_none h2 he)]; exact h2
  have s2 : Same H (upd H1 e (.lst [])) := s1.snew he
  generalize upd H1 e (.lst []) = H2 at h1e h2e s2
  by_cases hl : layer = []
  · subst hl
    exact q d t H2 s2 hd h1e hh.levels
  refine iteT' (by cases layer with | nil => exact absurd rfl hl | cons a b => rfl) ⟨fun σ' H' => ∃ m', m' < 2 * (13 - t.length) + (if layer = [] then 0 else 1) ∧ LtInv H c v x d m' σ' H', fun _ _ h => h, ?_⟩
  refine ⟨by decide, fun F hF => ?_⟩
  have hFn : H F = none := s2.free hF
  have hFL : F ≠ L := fun z => by rw [z, h2e] at hF; cases hF
  refine for_list (fun R h => ⟨_, rfl, h⟩) (l := layer) (xs := layer.map V.str) ⟨_, .of (show upd H2 F _ L = _ by rw [upd_ne (Ne.symm hFL)]; exact h2e)⟩
    (fun i σ' H' => ∃ t2 fo u5 u6, σ' = [some v, some (.str x), some (.ref d), some (.ref L), some (.ref F), u5, u6] ∧ H' d = some (.dK (strK V.int t2)) ∧ H' L = some (.lst (layer.map V.str)) ∧ H' F = some (.lst (fo.map V.str)) ∧
      Same H H' ∧ Lay c x k t layer t2 fo ∧ ∀ n ∈ layer.take i, ∀ m ∈ mates c n, ∃ l', gv t2 m = some l') (fun i σ' H' ⟨t2, fo, u5, u6, _, _, e, _⟩ => ⟨.of e, al_str.mpr rfl⟩)
    ⟨t, [], u5, u6, rfl, by rw [upd_ne (ne_of_none h1e hF)]; exact h1e, by rw [upd_ne (Ne.symm hFL)]; exact h2e, upd_same, s2.snew hF, hh.lay, fun n hn => by simp at hn⟩ (fun i n y σ' H' hn hp hy => ?_) fun σ' H' hp => ?_
  · obtain ⟨t2, fo, u5, u6, rfl, g1, g2, g3, g4, g5, g6⟩ := hp
    rw [at_str.mp hy]
    have hnl : n ∈ layer := List.mem_of_getElem? hn
    walk_at "nf"
    refine ⟨c, v, n, rfl, hc.same g4, ok, hok n hnl, fun M H3 s3 hM hM' => have hMF : M ≠ F := (ne_of_none g3 hM).symm; for_list (fun R h => h) (l := mates c n) (xs := (mates c n).map V.str) ⟨_, .of hM'⟩
      (fun j σ' H' => ∃ t2 fo u6, σ' = [some v, some (.str x), some (.ref d), some (.ref L), some (.ref F), some (.str n), u6] ∧ H' d = some (.dK (strK V.int t2)) ∧ H' L = some (.lst (layer.map V.str)) ∧ H' F = some (.lst (fo.map V.str)) ∧ H' M = some (.lst ((mates c n).map V.str)) ∧
        Same H H' ∧ Lay c x k t layer t2 fo ∧ (∀ n ∈ layer.take i, ∀ m ∈ mates c n, ∃ l', gv t2 m = some l') ∧ ∀ m ∈ (mates c n).take j, ∃ l', gv t2 m = some l') (fun i σ' H' ⟨t2, fo, u6, _, _, _, _, e, _⟩ => ⟨.of e, al_str.mpr rfl⟩)
      ⟨t2, fo, u6, rfl, s3 _ _ g1, s3 _ _ g2, s3 _ _ g3, hM', g4.trans s3, g5, g6, fun n hn => by simp at hn⟩ (fun j m y σ' H' hm hp hy => ?_) fun σ' H' hp => ?_⟩
    · obtain ⟨t2, fo, u6, rfl, g1, g2, g3, g4, g5, g6, g7, g8⟩ := hp
      rw [at_str.mp hy]
      have hmm : m ∈ mates c n := List.mem_of_getElem? hm
      walk_at "nf"
      refine ⟨d, _, rfl, DGet.str g1, _, rfl, ?_⟩
      cases em : gv t2 m with
      | some l' =>
        refine iteF' rfl ⟨t2, fo, _, rfl, g1, g2, g3, g4, g5, g6, g7, fun z hz => ?_⟩
        rw [List.take_add_one, hm] at hz
        rcases List.mem_append.mp hz with hz | hz
        · exact g8 z hz
        · rw [show z = m by simpa using hz]; exact ⟨l', em⟩
      | none =>
        refine iteT' rfl ?_
        have hk := g6.ly n hnl
        have hF' : F ≠ d := ne_of g3 g1 (by intro z; cases z)
        refine ⟨d, _, rfl, DGet.strS g1 hk, _, _, rfl, rfl, d, _, rfl, DPut.k (k := Sum.inr m) g1 ?_, ?_⟩
        · rw [strK_len]; exact small1000 (Nat.le_trans g6.bf.len (Nat.le_trans ok.len (by decide)))
        rw [strK_new em]
        have hLd : L ≠ d := ne_of g2 g1 (by intro z; cases z)
        have hMd : M ≠ d := ne_of g4 g1 (by intro z; cases z)
        have lf : fo.length ≤ 12 := by have h3 := g6.len; have h4 := g6.bf.len; have h5 := ok.len; omega
        refine r_app (xs := fo.map V.str) (by rw [upd_ne hF']; exact g3) (by rw [List.length_map]; omega) ⟨t2 ++ [(m, k + 1)], fo ++ [m], _, rfl, ?_, ?_, ?_, ?_, ?_, g6.add ok hnl hmm em, fun z hz y hy => ?_, fun z hz => ?_⟩
        · rw [upd_ne (Ne.symm hF'), upd_same]
        · rw [upd_ne (Ne.symm hFL), upd_ne hLd]; exact g2
        · rw [upd_same, List.map_append]; rfl
        · rw [upd_ne hMF, upd_ne hMd]; exact g4
        · exact (g5.put hd).put hFn
        · obtain ⟨l', e'⟩ := g7 z hz y hy
          exact ⟨l', gv_app_old e'⟩
        · rw [List.take_add_one, hm] at hz
          rcases List.mem_append.mp hz with hz | hz
          · obtain ⟨l', e'⟩ := g8 z hz
            exact ⟨l', gv_app_old e'⟩
          · rw [show z = m by simpa using hz]; exact ⟨_, gv_app_new em⟩
    · obtain ⟨t2, fo, u6, rfl, g1, g2, g3, g4, g5, g6, g7, g8⟩ := hp
      refine ⟨t2, fo, _, _, rfl, g1, g2, g3, g5, g6, fun z hz => ?_⟩
      rw [List.take_add_one, hn] at hz
      rcases List.mem_append.mp hz with hz | hz
      · exact g7 z hz
      · rw [show z = n by simpa using hz]
        rw [List.take_length] at g8
        exact g8
  · obtain ⟨t2, fo, u5, u6, rfl, g1, g2, g3, g4, g5, g6⟩ := hp
    rw [List.take_length] at g6
    walk_at "nf"
    refine ⟨_, ?_, t2, fo, k + 1, _, _, _, F, rfl, g1, g3, hFn, g4, g5.next g6, rfl⟩
    have h3 := g5.len
    have h4 := g5.bf.len
    have h5 := ok.len
    rw [if_neg hl]
    cases fo with
    | nil => rw [if_pos rfl]; omega
    | cons a b => rw [if_neg (by simp)]; rw [List.length_cons] at h3; omega
end
end G3
end

/-! ## G3Path -/
section
set_option Elab.async false
set_option linter.all false
set_option maxRecDepth 100000
set_option maxHeartbeats 4000000
local macro_rules | `(tactic| walk_at "nf") => `(tactic| simp only [L2.tRet, L2.tRetN, L2.tAndV, L2.tOrV, L2.tNotV, L2.tCB, L2.tCons, L2.tNil, L2.tVar, L2.tC, L2.tDIn, L2.tDNotIn, L2.tDGet, L2.tOp, L2.tUn, L2.tTest, L2.tB, L2.tIf, L2.tIfS, L2.tAnd, L2.tOr, L2.tNot, L2.tSeq, L2.tAsg, L2.gName, L2.tDrop, L2.tNext, L2.tCall, L2.tTup, L2.tLst, L2.tBM, L2.tBM0, L2.tSl, L2.tPart, L2.tNoPart, L2.sDPut, L2.tFld, L2.sFld, L2.tMeth, L2.tYes, L2.gTup, L2.gCons, L2.gNil, L2.tIsN, L2.tNotN, L2.tPar, L2.tDisp, L2.tPairs, L2.tDGet1, G3.lcL_call, G3.lcL_op, G3.lcL_dget, G3.lcT_call, G3.lcT_op, G3.lcT_dget, G3.forL_call, G3.forL_op, G3.forL_dget, G3.forT_call, G3.forT_op, G3.forT_dget, G3.ex_l1, G3.ex_l2, G3.ex_l3,
  G3.start_eq, G3.cxOf_K, G3.wipe_nil, G3.wipe_cons, List.map_cons, List.map_nil, List.nil_append, List.cons_append, List.append_nil, List.getElem?_cons_zero, List.getElem?_cons_succ, List.set_cons_zero, List.set_cons_succ, List.set_nil, List.length_cons, List.length_nil, List.replicate, Option.some.injEq, G3.ex_eq, Nat.reduceAdd, Nat.reduceSub, Nat.zero_add, List.replicate_succ, List.replicate_zero, true_and, if_true, if_false, Bool.false_eq_true, Nat.add_zero, Int.add_zero])
namespace G3
open PySem PySem.Spec PyProof.Rows L2

abbrev sDistance : Stmt := top 17
abbrev sReachable : Stmt := top 18
abbrev sPath : Stmt := top 19
theorem scDistance : FnScope ["catalog", "start", "end"] ["catalog", "start", "end"] (defScope sDistance) := ⟨rfl, rfl, rfl, by decide +kernel, rfl, by decide +kernel, by decide +kernel⟩
theorem scReachable : FnScope ["catalog", "start"] ["catalog", "start"] (defScope sReachable) := ⟨rfl, rfl, rfl, by decide +kernel, rfl, by decide +kernel, by decide +kernel⟩
theorem scPath : FnScope ["catalog", "start", "end", "table", "found", "mate"] ["catalog", "start", "end"] (defScope sPath) := ⟨rfl, rfl, rfl, by decide +kernel, rfl, by decide +kernel, by decide +kernel⟩
def spDistance : Sp := fun vs H Q _ => ∃ (c : Cat) (v : V) (x y : Str), vs = [v, .str x, .str y] ∧ CatAt H c v ∧ CatOk c ∧ x ∈ c.map (·.1) ∧ y ∈ c.map (·.1) ∧ ∀ t H', Same H H' → Levels c x t → Q (((gv t y).map V.int).getD .non) H'
def spReachable : Sp := fun vs H Q _ => ∃ (c : Cat) (v : V) (x : Str), vs = [v, .str x] ∧ CatAt H c v ∧ CatOk c ∧ x ∈ c.map (·.1) ∧ ∀ p (l : List Str) H', Same H H' → At H' l (.ref p) → Q (.ref p) H'
/-- names from x to y, each a mate of the one before -/
structure Names (c : Cat) (x y : Str) (fs : List Str) : Prop where
  first : fs[0]? = some x
  last : ∃ r, fs = r ++ [y]
  sub : ∀ a ∈ fs, a ∈ c.map (·.1)
  len : fs.length ≤ 12
  ch : ∀ i a b, fs[i]? = some a → fs[i + 1]? = some b → b ∈ mates c a
  lev : ∀ t l, Levels c x t → gv t y = some l → l + 1 ≤ fs.length
def spPath : Sp := fun vs H Q _ => ∃ (c : Cat) (v : V) (x y : Str), vs = [v, .str x, .str y] ∧ CatAt H c v ∧ CatOk c ∧ x ∈ c.map (·.1) ∧ y ∈ c.map (·.1) ∧ (∀ t, Levels c y t → ∃ l, gv t x = some l) ∧ ∀ p fs H', Same H H' → Names c x y fs → At H' fs (.ref p) → Q (.ref p) H'
theorem Way.names {c : Cat} (ok : CatOk c) {x y : Str} {t : Tab} {fs : List Str} {l : Int} (h : Levels c y t) (w : Way c t x fs y l) : Names c x y fs := by
  have hsub : ∀ a ∈ fs, a ∈ c.map (·.1) := fun a ha => by
    obtain ⟨k, e, _⟩ := w.le a ha
    exact h.sub _ (gv_some e)
  refine ⟨w.first, w.last, hsub, ?_, w.ch, fun t' l' h' e => ?_⟩
  · have := nodup_len w.nd hsub
    rw [List.length_map] at this
    exact Nat.le_trans this ok.len
  · obtain ⟨r, hr⟩ := w.last
    obtain ⟨k, e1, e2⟩ := w.levels h' r.length y (by rw [hr]; simp)
    rw [e] at e1
    cases e1
    rw [hr, List.length_append, List.length_singleton]
    push_cast
    omega
section
variable {P : Program} {w : World} {K : PySem.W.Frag} {mg : Str → Option Value} {base : Heap}
theorem ok_distance (T : Bt mg) (G1 : Df P w K mg base CX0 2 "check_release" ["catalog", "value"] spCheckRelease) (G2 : Df P w K mg base CX0 2 "level_table" ["catalog", "start"] spLevelTable) (F : St0 K mg "distance" sDistance) : Df P w K mg base CX0 3 "distance" ["catalog", "start", "end"] spDistance := by
  refine F.ok0 scDistance (fun vs H Q E h => ?_) (fun _ _ _ _ _ _ us hl => match us, hl with | [_, _, _], _ => rfl) fun f cdv A outer s H vs Q E hr h => ?_
  · obtain ⟨c, v, x, y, rfl, _⟩ := h
    rfl
  obtain ⟨c, v, x, y, rfl, hc, ok, hx, hy, q⟩ := h
  refine ⟨_, pss_cons (ps_expr (pe_df G1 hr pass0 (pa_cons (pv 0) (pa_cons (pv 1) pa_nil)))) (pss_cons (ps_expr (pe_df G1 hr pass0 (pa_cons (pv 0) (pa_cons (pv 2) pa_nil))))
    (pss_one (ps_ret (pe_dget1 (hu_of hr) (pe_df G2 hr pass0 (pa_cons (pv 0) (pa_cons (pv 1) pa_nil))) (pv 2) ⟨rfl, rfl, rfl, rfl⟩)))), ?_⟩
  walk_at "nf"
  refine ⟨c, v, x, rfl, hc, ok.nd, hx, fun H1 s1 => ⟨c, v, y, rfl, hc.same s1, ok.nd, hy, fun H2 s2 => ⟨c, v, x, rfl, hc.same (s1.trans s2), ok, hx, fun d t H3 s3 hd h3 L => ?_⟩⟩⟩
  have s4 := (s1.trans s2).trans s3
  exact ⟨d, rfl, .inl ⟨_, .of h3⟩, _, DGet.str h3, q t H3 s4 L⟩
theorem ok_reachable (T : Bt mg) (G1 : Df P w K mg base CX0 2 "check_release" ["catalog", "value"] spCheckRelease) (G2 : Df P w K mg base CX0 2 "level_table" ["catalog", "start"] spLevelTable) (F : St0 K mg "reachable" sReachable) : Df P w K mg base CX0 3 "reachable" ["catalog", "start"] spReachable := by
  refine F.ok0 scReachable (fun vs H Q E h => ?_) (fun _ _ _ _ _ _ us hl => match us, hl with | [_, _], _ => rfl) fun f cdv A outer s H vs Q E hr h => ?_
  · obtain ⟨c, v, x, rfl, _⟩ := h
    rfl
  obtain ⟨c, v, x, rfl, hc, ok, hx, q⟩ := h
  refine ⟨_, pss_cons (ps_expr (pe_df G1 hr pass0 (pa_cons (pv 0) (pa_cons (pv 1) pa_nil)))) 
    (pss_one (ps_ret (eTup K T (pe_callB (call_sortedD rfl) rfl T.sorted boot_sorted (pa_cons (pe_df G2 hr pass0 (pa_cons (pv 0) (pa_cons (pv 1) pa_nil))) pa_nil) (by decide) (by decide))))), ?_⟩
  walk_at "nf"
  refine ⟨c, v, x, rfl, hc, ok.nd, hx, fun H1 s1 => ⟨c, v, x, rfl, hc.same s1, ok, hx, fun d t H2 s2 hd h2 L => ?_⟩⟩
  refine ⟨d, strK V.int t, t.map (·.1), rfl, .of h2, ?_, ?_, fun ys p hp hs h3 => ?_⟩
  · unfold strK; rw [List.map_map, List.map_map]; rfl
  · rw [List.length_map]; exact Nat.lt_of_le_of_lt (Nat.le_trans L.len ok.len) (by decide)
  · refine r_tupL (l := ys) upd_same (al_paired.mp (al_str.mpr rfl)) fun z hz ha => q z ys _ (((s1.trans s2).snew h3).snew hz) ha
theorem ok_path (T : Bt mg) (G0 : Df P w K mg base CX0 1 "mates" ["catalog", "name"] spMates) (G1 : Df P w K mg base CX0 2 "check_release" ["catalog", "value"] spCheckRelease) (G2 : Df P w K mg base CX0 2 "level_table" ["catalog", "start"] spLevelTable) (F : St0 K mg "path" sPath) : Df P w K mg base CX0 3 "path" ["catalog", "start", "end"] spPath := by
  refine F.ok0 scPath (fun vs H Q E h => ?_) (fun _ _ _ _ _ _ us hl => match us, hl with | [_, _, _], _ => rfl) fun f cdv A outer s H vs Q E hr h => ?_
  · obtain ⟨c, v, x, y, rfl, _⟩ := h
    rfl
  obtain ⟨c, v, x, y, rfl, hc, ok, hx, hy, hxy, q⟩ := h
  refine ⟨_, pss_cons (ps_expr (pe_df G1 hr pass0 (pa_cons (pv 0) (pa_cons (pv 1) pa_nil)))) (pss_cons (ps_expr (pe_df G1 hr pass0 (pa_cons (pv 0) (pa_cons (pv 2) pa_nil))))
    (pss_cons (ps_set (i := 3) scPath.nd rfl (Or.inr rfl) (pe_df G2 hr pass0 (pa_cons (pv 0) (pa_cons (pv 2) pa_nil))))
    (pss_cons (ps_if (pt_cmp (pc_dnotin (hu_of hr) (pv 1) (pv 3))) pss_never pss_nil)
    (pss_cons (ps_set (i := 4) scPath.nd rfl (Or.inr rfl) (pe_lst (pa_cons (pv 1) pa_nil)))
    (pss_cons (ps_while PassesOwn.never (pt_cmpR (opNeD K hr.units) (eL K (pv 4) (pe_un un_neg pe_int)) (pv 2) (nomark _))
      (pss_one (ps_expr (pe_bm PySem.F.plainAttrs_list PySem.F.slot_list_append PySem.F.type_list_append mt_append (pv 4) (pa_cons
        (eL K (pe_lc (own := [("mate", 5)]) (g := gName 5) rfl scPath.nd (piL K (pe_df G0 hr pass0 (pa_cons (pv 0) (pa_cons (eL K (pv 4) (pe_un un_neg pe_int)) pa_nil)))) (blkOk_by (by rfl))
          (fun _ _ _ _ _ => pg_name (i := 5) scPath.nd rfl (Or.inl rfl))
          (fun _ _ _ _ _ => pts_one (pt_cmpR op_lt (pe_dget (hu_of hr) (pv 3) (pv 5) (fun _ _ => rfl)) (pe_dget (hu_of hr) (pv 3) (eL K (pv 4) (pe_un un_neg pe_int)) (fun _ _ => rfl)) (nomark _)))
          (fun _ _ _ _ _ => pv 5)) pe_int) pa_nil)))))
    (pss_one (ps_ret (eTup K T (pv 4))))))))), ?_⟩
  walk_at "nf"
  refine ⟨c, v, x, rfl, hc, ok.nd, hx, fun H1 s1 => ⟨c, v, y, rfl, hc.same s1, ok.nd, hy, fun H2 s2 => ⟨c, v, y, rfl, hc.same (s1.trans s2), ok, hy, fun d t H3 s3 hd h3 L => ?_⟩⟩⟩
  have s4 := (s1.trans s2).trans s3
  refine ⟨d, _, rfl, DGet.str h3, _, rfl, ?_⟩
  obtain ⟨l0, hl0⟩ := hxy t L
  rw [hl0]
  refine iteF' rfl ⟨by decide, fun Fd hF => ?_⟩
  have hFn : H Fd = none := s4.free hF
  have hFd : Fd ≠ d := fun e => by rw [e, h3] at hF; cases hF
  refine ⟨fun m σ H' => ∃ fs z l u5, σ = [some v, some (.str x), some (.str y), some (.ref d), some (.ref Fd), u5] ∧ H' d = some (.dK (strK V.int t)) ∧ H' Fd = some (.lst (fs.map V.str)) ∧ Same H H' ∧ Way c t x fs z l ∧ m = l.toNat,
    ⟨_, [x], x, l0, none, rfl, by rw [upd_ne (Ne.symm hFd)]; exact h3, upd_same, s4.snew hF, .start hl0, rfl⟩, ?_⟩
  rintro m σ H4 ⟨fs, z, l, u5, rfl, g1, g2, g3, W, rfl⟩
  walk_at "nf"
  have hlast : atI (fs.map V.str) (-1) = some (.str z) := by
    obtain ⟨r, hr⟩ := W.last
    rw [hr, List.map_append]
    exact atI_last _ _
  have hzc : z ∈ c.map (·.1) := L.sub _ (gv_some W.lz)
  refine ⟨_, rfl, Fd, fs.map V.str, _, _, rfl, rfl, .of g2, hlast, r_ne (α := Str) rfl rfl (names_ok ok hzc) (names_ok ok hy) ⟨_, rfl, ?_⟩⟩
  by_cases hzy : z = y
  · refine iteF' (by rw [hzy]; simp) ?_
    subst hzy
    refine r_tupL g2 (al_paired.mp (al_str.mpr rfl)) fun p hp ha => q p fs _ (g3.snew hp) (W.names ok L) ha
  · refine iteT' (by simp [hzy]) ⟨fun σ' H' => ∃ m', m' < l.toNat ∧ ∃ fs z l u5, σ' = [some v, some (.str x), some (.str y), some (.ref d), some (.ref Fd), u5] ∧ H' d = some (.dK (strK V.int t)) ∧ H' Fd = some (.lst (fs.map V.str)) ∧ Same H H' ∧ Way c t x fs z l ∧ m' = l.toNat, fun _ _ h => h, ?_⟩
    have hl : 0 < l := by
      have h0 : (0 : Int) ≤ l := L.nn _ (gv_some W.lz)
      rcases Int.lt_or_eq_of_le h0 with h | h
      · exact h
      · exact absurd (L.z z (by rw [W.lz, h])) hzy
    obtain ⟨m0, hm0, hm1⟩ := L.pre z l W.lz hl
    refine ⟨.inl ⟨rfl, _, .of g2⟩, _, rfl, Fd, fs.map V.str, _, _, rfl, rfl, .of g2, hlast, c, v, z, rfl, hc.same g3, ok, hzc, fun M H5 s5 hM hM' =>
      lc_list (fun R h => h) (l := mates c z) (xs := (mates c z).map V.str) ⟨.of hM', al_str.mpr rfl⟩ RAt stab_at (fun m => decide (((gv t m).getD 0) < l)) id (small64 (Nat.le_trans mates_len ok.len)) (fun a y H6 R ha s6 hy kp dr => ?_) fun D ys H6 hD s6 hD' hp => ?_⟩
    · rw [at_str.mp hy]
      refine ⟨rfl, ?_⟩
      walk_at "nf"
      obtain ⟨la, e1, _⟩ := L.cl z l a W.lz ha
      refine ⟨d, _, rfl, DGet.strS (s6 _ _ (s5 _ _ g1)) e1, _, rfl, Fd, fs.map V.str, _, _, rfl, rfl, .of (s6 _ _ (s5 _ _ g2)), hlast, d, _, rfl, DGet.strS (s6 _ _ (s5 _ _ g1)) W.lz, _, _, rfl, rfl, _, rfl, ?_⟩
      rw [e1] at kp dr
      by_cases h : la < l
      · exact iteT' (decide_eq_true h) (kp _ _ (.refl _) (decide_eq_true h) rfl)
      · exact iteF' (decide_eq_false h) (dr _ (.refl _) (decide_eq_false h))
    · rw [List.map_id] at hp
      have hm : m0 ∈ (mates c z).filter (fun m => decide (((gv t m).getD 0) < l)) := List.mem_filter.mpr ⟨hm0, by rw [hm1]; exact decide_eq_true (show l - 1 < l by omega)⟩
      rw [strs_of hp] at hD'
      cases e : (mates c z).filter (fun m => decide (((gv t m).getD 0) < l)) with
      | nil => rw [e] at hm; cases hm
      | cons m1 r =>
        have hm1' : m1 ∈ (mates c z).filter (fun m => decide (((gv t m).getD 0) < l)) := by rw [e]; simp
        obtain ⟨k1, k2⟩ := List.mem_filter.mp hm1'
        obtain ⟨la, e1, _⟩ := L.cl z l m1 W.lz k1
        rw [e1] at k2
        have k3 : la < l := of_decide_eq_true k2
        rw [e] at hD'
        have hFH : H6 Fd = some (.lst (fs.map V.str)) := s6 _ _ (s5 _ _ g2)
        have hlen : fs.length ≤ 12 := by
          have := nodup_len (m := c.map (·.1)) W.nd fun a ha => by
            obtain ⟨k, e, _⟩ := W.le a ha
            exact L.sub _ (gv_some e)
          rw [List.length_map] at this
          exact Nat.le_trans this ok.len
        refine ⟨D, _, _, .str m1, rfl, rfl, .of hD', atI_nat (j := 0) rfl, Fd, fs.map V.str, _, rfl, rfl, hFH, ?_, la.toNat, ?_, fs ++ [m1], m1, la, _, rfl, ?_, ?_, ?_, W.step k1 e1 k3, rfl⟩
        · rw [List.length_map]; exact small64 hlen
        · have : (0 : Int) ≤ la := L.nn _ (gv_some e1)
          omega
        · rw [upd_ne (Ne.symm hFd)]; exact s6 _ _ (s5 _ _ g1)
        · rw [upd_same, List.map_append]; rfl
        · exact ((g3.trans s5).trans s6).put hFn
end
end G3
end

/-! ## G3Net -/
section
set_option Elab.async false
set_option linter.all false
set_option maxRecDepth 100000
set_option maxHeartbeats 4000000
local macro_rules | `(tactic| walk_at "nf") => `(tactic| simp only [L2.tRet, L2.tRetN, L2.tAndV, L2.tOrV, L2.tNotV, L2.tCB, L2.tCons, L2.tNil, L2.tVar, L2.tC, L2.tDIn, L2.tDNotIn, L2.tDGet, L2.tOp, L2.tUn, L2.tTest, L2.tB, L2.tIf, L2.tIfS, L2.tAnd, L2.tOr, L2.tNot, L2.tSeq, L2.tAsg, L2.gName, L2.tDrop, L2.tNext, L2.tCall, L2.tTup, L2.tLst, L2.tBM, L2.tBM0, L2.tSl, L2.tPart, L2.tNoPart, L2.sDPut, L2.tFld, L2.sFld, L2.tMeth, L2.tYes, L2.gTup, L2.gCons, L2.gNil, L2.tIsN, L2.tNotN, L2.tPar, L2.tDisp, L2.tPairs, L2.tDGet1, G3.dcT_op, G3.tFrz, G3.dcI_frz, G3.lcI_frz, G3.lcY_frz, G3.lcI_call, G3.lcL_call, G3.lcL_op, G3.lcL_dget, G3.lcT_call, G3.lcT_op, G3.lcT_dget, G3.forL_call, G3.forL_op, G3.forL_dget, G3.forT_call, G3.forT_op, G3.forT_dget, G3.ex_l1, G3.ex_l2, G3.ex_l3,
  G3.start_eq, G3.cxOf_K, G3.wipe_nil, G3.wipe_cons, List.map_cons, List.map_nil, List.nil_append, List.cons_append, List.append_nil, List.getElem?_cons_zero, List.getElem?_cons_succ, List.set_cons_zero, List.set_cons_succ, List.set_nil, List.length_cons, List.length_nil, List.replicate, Option.some.injEq, G3.ex_eq, Nat.reduceAdd, Nat.reduceSub, Nat.zero_add, List.replicate_succ, List.replicate_zero, true_and, if_true, if_false, Bool.false_eq_true, Nat.add_zero, Int.add_zero])
namespace G3
open PySem PySem.Spec PyProof.Rows L2

abbrev Net := List Str × List (Str × Str)
abbrev NetAt (H : Hp) (n : Net) (v : V) : Prop := At H n v
/-- the neighbours of s, in the order of the talks -/
def adj (talks : List (Str × Str)) (s : Str) : List Str := talks.flatMap fun p => (if p.1 = s then [p.2] else []) ++ (if p.2 = s then [p.1] else [])
structure NetOk (n : Net) : Prop where
  nd : n.1.Nodup
  ok : ∀ s ∈ n.1, Enc.ok s
  len : n.1.length ≤ 10
  ne : n.1 ≠ []
  tk : ∀ p ∈ n.2, p.1 ∈ n.1 ∧ p.2 ∈ n.1 ∧ p.1 ≠ p.2
  tlen : n.2.length ≤ 40
  nbn : ∀ s ∈ n.1, (adj n.2 s).Nodup
  col : ∃ c : Str → Bool, ∀ p ∈ n.2, c p.1 ≠ c p.2
theorem mem_adj {talks : List (Str × Str)} {s t : Str} : t ∈ adj talks s ↔ (s, t) ∈ talks ∨ (t, s) ∈ talks := by
  unfold adj
  rw [List.mem_flatMap]
  constructor
  · rintro ⟨p, hp, h⟩
    rcases List.mem_append.mp h with h | h
    · by_cases e : p.1 = s
      · rw [if_pos e, List.mem_singleton] at h
        left; rw [h, ← e]; exact hp
      · rw [if_neg e] at h; cases h
    · by_cases e : p.2 = s
      · rw [if_pos e, List.mem_singleton] at h
        right; rw [h, ← e]; exact hp
      · rw [if_neg e] at h; cases h
  · rintro (h | h)
    · exact ⟨_, h, List.mem_append_left _ (by simp)⟩
    · exact ⟨_, h, List.mem_append_right _ (by simp)⟩
theorem adj_snoc {talks : List (Str × Str)} {p : Str × Str} {s : Str} : adj (talks ++ [p]) s = adj talks s ++ ((if p.1 = s then [p.2] else []) ++ (if p.2 = s then [p.1] else [])) := by
  unfold adj
  rw [List.flatMap_append]
  simp
theorem adj_len {s : Str} : ∀ {talks : List (Str × Str)}, (∀ p ∈ talks, p.1 ≠ p.2) → (adj talks s).length ≤ talks.length
  | [], _ => Nat.le_refl _
  | p :: r, h => by
    have ih := adj_len (s := s) (talks := r) fun q hq => h q (by simp [hq])
    have hp := h p (by simp)
    have e : adj (p :: r) s = ((if p.1 = s then [p.2] else []) ++ (if p.2 = s then [p.1] else [])) ++ adj r s := by unfold adj; rw [List.flatMap_cons]
    rw [e, List.length_append, List.length_cons]
    by_cases e1 : p.1 = s
    · rw [if_pos e1, if_neg (fun e2 => hp (e1.trans e2.symm))]
      simp; omega
    · rw [if_neg e1]
      by_cases e2 : p.2 = s
      · rw [if_pos e2]; simp; omega
      · rw [if_neg e2]; simp; omega
abbrev Tbl := List (Str × List Str)
structure NbOk (n : Net) (t : Tbl) : Prop where
  keys : t.map (·.1) = n.1
  nb : ∀ p ∈ t, p.2.Perm (adj n.2 p.1)
/-- lists that stand for good -/
def RList : Rel (List Str) := fun H b v => ∃ a o, v = .ref a ∧ H a = some (.frz o (.lst (b.map V.str)))
theorem stab_list : Stab RList := fun H H' b v k ⟨a, o, e1, e2⟩ => ⟨a, o, e1, k _ _ e2 rfl⟩
/-- a table of neighbours that stands for good -/
def TblAt (H : Hp) (t : Tbl) (d : Addr) : Prop := ∃ od kvs, H d = some (.frz od (.dK kvs)) ∧ kvs.map (·.1) = t.map (fun p => (Sum.inr p.1 : Key)) ∧ Paired (RList H) (t.map (·.2)) (kvs.map (·.2))
theorem TblAt.tup {H H' : Hp} {t : Tbl} {d : Addr} (h : TblAt H t d) (k : TupS H H') : TblAt H' t d := by
  obtain ⟨od, kvs, h1, h2, h3⟩ := h
  exact ⟨od, kvs, k _ _ h1 rfl, h2, Paired.mapP h3 fun b v q => stab_list _ _ b v k q⟩
theorem tbl_get {H : Hp} {x : Str} : ∀ {t : Tbl} {kvs : List (Key × V)}, kvs.map (·.1) = t.map (fun p => (Sum.inr p.1 : Key)) → Paired (RList H) (t.map (·.2)) (kvs.map (·.2)) → ∀ b, gv t x = some b → ∃ v, valV kvs (.inr x) = some v ∧ RList H b v
  | [], kvs, h1, h2, b, e => by cases e
  | p :: t, [], h1, h2, b, e => by cases h1
  | p :: t, q :: kvs, h1, h2, b, e => by
    rw [List.map_cons, List.map_cons] at h1 h2
    obtain ⟨e1, e2⟩ := List.cons.inj h1
    cases h2 with
    | cons h3 h4 =>
      rw [gv_cons] at e
      rw [valV_gv, gv_cons, e1]
      by_cases ee : p.1 = x
      · rw [if_pos ee] at e
        cases e
        rw [if_pos (by rw [ee])]
        exact ⟨_, rfl, h3⟩
      · rw [if_neg ee] at e
        rw [if_neg (fun z => ee (Sum.inr.inj z))]
        exact tbl_get e2 h4 b e
theorem TblAt.get {H : Hp} {t : Tbl} {d : Addr} {x : Str} {b : List Str} (h : TblAt H t d) (e : gv t x = some b) : ∃ v, DGet H d (.str x) (some v) ∧ RList H b v := by
  obtain ⟨od, kvs, h1, h2, h3⟩ := h
  obtain ⟨v, e1, e2⟩ := tbl_get h2 h3 b e
  refine ⟨v, ?_, e2⟩
  exact .inl ⟨kvs, .inr x, .inr ⟨od, h1⟩, rfl, e1.symm⟩
/-- nb of s by a table -/
def nbs (t : Tbl) (s : Str) : List Str := (gv t s).getD []
theorem NbOk.get {n : Net} {t : Tbl} (h : NbOk n t) {s : Str} (hs : s ∈ n.1) : gv t s = some (nbs t s) ∧ ∀ z, z ∈ nbs t s ↔ (s, z) ∈ n.2 ∨ (z, s) ∈ n.2 := by
  obtain ⟨b, e⟩ := gv_key (show s ∈ t.map (·.1) by rw [h.keys]; exact hs)
  have e2 : nbs t s = b := by unfold nbs; rw [e]; rfl
  refine ⟨by rw [e2]; exact e, fun z => ?_⟩
  rw [e2, (h.nb _ (gv_some e)).mem_iff]
  exact mem_adj
theorem kvs_addr {P : Addr → Prop} : ∀ {kvs : List (Key × V)} {ks : List Str} {us : List Unit}, kvs.map (·.1) = ks.map (fun a => (Sum.inr a : Key)) → Paired (fun _ v => ∃ a, v = .ref a ∧ P a) us (kvs.map (·.2)) →
    ∃ t : List (Str × Addr), kvs = strK V.ref t ∧ t.map (·.1) = ks ∧ ∀ p ∈ t, P p.2
  | [], [], us, h1, h2 => ⟨[], rfl, rfl, fun p hp => nomatch hp⟩
  | [], k :: ks, us, h1, h2 => by cases h1
  | p :: kvs, [], us, h1, h2 => by cases h1
  | p :: kvs, k :: ks, us, h1, h2 => by
    rw [List.map_cons, List.map_cons] at h1
    obtain ⟨e1, e2⟩ := List.cons.inj h1
    rw [List.map_cons] at h2
    cases h2 with
    | cons q r =>
      obtain ⟨a, ea, pa⟩ := q
      obtain ⟨t, t1, t2, t3⟩ := kvs_addr e2 r
      refine ⟨(k, a) :: t, ?_, by rw [List.map_cons, t2], fun z hz => ?_⟩
      · rw [t1]
        have : p = (Sum.inr k, V.ref a) := by rw [← e1, ← ea]
        rw [this]; rfl
      · rcases List.mem_cons.mp hz with e | hz
        · rw [e]; exact pa
        · exact t3 z hz
theorem strK_vals {β : Type} {f : β → V} {t : List (Str × β)} : (strK f t).map (·.2) = (t.map (·.2)).map f := by unfold strK; simp
theorem strK_keys {β : Type} {f : β → V} {t : List (Str × β)} : (strK f t).map (·.1) = t.map (fun p => (Sum.inr p.1 : Key)) := by unfold strK; simp
theorem nodup_inj {α β : Type} {f : α → β} {l : List α} (h : (l.map f).Nodup) {a b : α} (ha : a ∈ l) (hb : b ∈ l) (e : f a = f b) : a = b := by
  induction l with
  | nil => cases ha
  | cons z l ih =>
    rw [List.map_cons, List.nodup_cons] at h
    rcases List.mem_cons.mp ha with ea | ha
    · rcases List.mem_cons.mp hb with eb | hb
      · rw [ea, eb]
      · exact absurd (List.mem_map.mpr ⟨b, hb, by rw [← e, ea]⟩) h.1
    · rcases List.mem_cons.mp hb with eb | hb
      · exact absurd (List.mem_map.mpr ⟨a, ha, by rw [e, eb]⟩) h.1
      · exact ih h.2 ha hb
def keyS (kv : Key × V) : Str := match kv.1 with
  | .inr x => x
  | .inl _ => ⟨#[]⟩
theorem perm_lists {H : Hp} {g : Str → List Str} : ∀ {ks : List Str} {vs : List V}, Paired (fun b v => ∃ ys : List Str, ys.Perm b ∧ RList H ys v) (ks.map g) vs → ∃ t : Tbl, t.map (·.1) = ks ∧ Paired (RList H) (t.map (·.2)) vs ∧ ∀ p ∈ t, p.2.Perm (g p.1)
  | [], vs, h => by cases h; exact ⟨[], rfl, .nil, fun p hp => nomatch hp⟩
  | k :: ks, vs, h => by
    rw [List.map_cons] at h
    cases h with
    | cons q r =>
      obtain ⟨ys, y1, y2⟩ := q
      obtain ⟨t, t1, t2, t3⟩ := perm_lists r
      refine ⟨(k, ys) :: t, by rw [List.map_cons, t1], .cons y2 t2, fun p hp => ?_⟩
      rcases List.mem_cons.mp hp with e | hp
      · rw [e]; exact y1
      · exact t3 p hp
abbrev sHasService : Stmt := top 21
abbrev sNeighbourTable : Stmt := top 22
abbrev sCheckService : Stmt := top 23
abbrev sNeighbours : Stmt := top 24
abbrev sLone : Stmt := top 25
theorem scHS : FnScope ["network", "value"] ["network", "value"] (defScope sHasService) := ⟨rfl, rfl, rfl, by decide +kernel, rfl, by decide +kernel, by decide +kernel⟩
theorem scNT : FnScope ["network", "found", "one", "other", "service", "some"] ["network"] (defScope sNeighbourTable) := ⟨rfl, rfl, rfl, by decide +kernel, rfl, by decide +kernel, by decide +kernel⟩
theorem scCS : FnScope ["network", "value"] ["network", "value"] (defScope sCheckService) := ⟨rfl, rfl, rfl, by decide +kernel, rfl, by decide +kernel, by decide +kernel⟩
theorem scNbs : FnScope ["network", "service"] ["network", "service"] (defScope sNeighbours) := ⟨rfl, rfl, rfl, by decide +kernel, rfl, by decide +kernel, by decide +kernel⟩
theorem scLone : FnScope ["network", "service", "some"] ["network"] (defScope sLone) := ⟨rfl, rfl, rfl, by decide +kernel, rfl, by decide +kernel, by decide +kernel⟩
def spHasService : Sp := fun vs H Q _ => ∃ (n : Net) (v : V) (x : Str), vs = [v, .str x] ∧ NetAt H n v ∧ ∀ H', Same H H' → Q (.bl (decide (x ∈ n.1))) H'
def spCheckService : Sp := fun vs H Q _ => ∃ (n : Net) (v : V) (x : Str), vs = [v, .str x] ∧ NetAt H n v ∧ x ∈ n.1 ∧ ∀ H', Same H H' → Q .non H'
def spNeighbourTable : Sp := fun vs H Q _ => ∃ (n : Net) (v : V), vs = [v] ∧ NetAt H n v ∧ NetOk n ∧ ∀ d t H', Same H H' → H d = none → TblAt H' t d → NbOk n t → Q (.ref d) H'
def spNeighbours : Sp := fun vs H Q _ => ∃ (n : Net) (v : V) (x : Str), vs = [v, .str x] ∧ NetAt H n v ∧ NetOk n ∧ x ∈ n.1 ∧ ∀ p (l : List Str) H', Same H H' → (∀ z, z ∈ l ↔ (x, z) ∈ n.2 ∨ (z, x) ∈ n.2) → l.length ≤ 40 → At H' l (.ref p) → Q (.ref p) H'
section
variable {P : Program} {w : World} {K : PySem.W.Frag} {mg : Str → Option Value} {base : Heap}
theorem ok_has_service (T : Bt mg) (F : St0 K mg "has_service" sHasService) : Df P w K mg base CX0 1 "has_service" ["network", "value"] spHasService := by
  refine F.ok0 scHS (fun vs H Q E h => ?_) (fun _ _ _ _ _ _ us hl => match us, hl with | [_, _], _ => rfl) fun f cdv A outer s H vs Q E hr h => ?_
  · obtain ⟨n, v, x, rfl, _⟩ := h
    rfl
  obtain ⟨n, v, x, rfl, hn, q⟩ := h
  refine ⟨_, pss_one (ps_ret (pe_and (eIsi (m := "str") K T (pv 1) T.str boot_str) (pe_one (pe_cmpR (opInS K) (pv 1) (eT K (pv 0) pe_int) rfl)))), ?_⟩
  walk_at "nf"
  exact isiStr ⟨true, rfl, iteT (r_p0 hn fun w hw => r_inS hw (q _ (.refl _)))⟩
theorem ok_check_service (F : St0 K mg "check_service" sCheckService) (G : Df P w K mg base CX0 1 "has_service" ["network", "value"] spHasService) : Df P w K mg base CX0 2 "check_service" ["network", "value"] spCheckService := by
  refine F.ok0 scCS (fun vs H Q E h => ?_) (fun _ _ _ _ _ _ us hl => match us, hl with | [_, _], _ => rfl) fun f cdv A outer s H vs Q E hr h => ?_
  · obtain ⟨n, v, x, rfl, _⟩ := h
    rfl
  obtain ⟨n, v, x, rfl, hn, hx, q⟩ := h
  refine ⟨_, pss_one (ps_if (pt_not (pt_val (pe_df G hr pass0 (pa_cons (pv 0) (pa_cons (pv 1) pa_nil))))) pss_never pss_nil), ?_⟩
  walk_at "nf"
  refine ⟨n, v, x, rfl, hn, fun H' s => ?_⟩
  rw [decide_eq_true hx]
  exact ⟨true, rfl, iteF (q _ s)⟩
theorem ok_neighbour_table (T : Bt mg) (F : St0 K mg "neighbour_table" sNeighbourTable) : Df P w K mg base CX0 1 "neighbour_table" ["network"] spNeighbourTable := by
  refine F.ok0 scNT (fun vs H Q E h => ?_) (fun _ _ _ _ _ _ us hl => match us, hl with | [_], _ => rfl) fun f cdv A outer s H vs Q E hr h => ?_
  · obtain ⟨n, v, rfl, _⟩ := h
    rfl
  obtain ⟨n, v, rfl, hn, ok, q⟩ := h
  refine ⟨_, pss_cons (ps_setDc (i := 1) (own := [("service", 4)]) (g := gName 4) rfl scNT.nd rfl rfl (sw_trueD rfl rfl rfl (by decide +kernel)) (piT K (eT K (pv 0) pe_int)) (blkOk_by (by rfl))
      (fun _ _ _ _ _ => pg_name (i := 4) scNT.nd rfl (Or.inl rfl)) (fun _ _ _ _ _ => pts_nil) (fun _ _ _ _ _ => pv 4) (fun _ _ _ _ _ => pe_lst pa_nil))
    (pss_cons (ps_for PassesOwn.never rfl (piT K (eT K (pv 0) pe_int)) (pg_tup rfl (pgs_cons (pg_name (i := 2) scNT.nd rfl (Or.inl rfl)) (pgs_cons (pg_name (i := 3) scNT.nd rfl (Or.inl rfl)) pgs_nil)))
      (pss_cons (ps_expr (pe_bm PySem.F.plainAttrs_list PySem.F.slot_list_append PySem.F.type_list_append mt_append (pe_dget (hu_of hr) (pv 1) (pv 2) (fun _ _ => rfl)) (pa_cons (pv 3) pa_nil)))
      (pss_one (ps_expr (pe_bm PySem.F.plainAttrs_list PySem.F.slot_list_append PySem.F.type_list_append mt_append (pe_dget (hu_of hr) (pv 1) (pv 3) (fun _ _ => rfl)) (pa_cons (pv 2) pa_nil))))))
    (pss_one (ps_ret (pe_frz (pe_dc (own := [("service", 4), ("some", 5)]) (g := gTup K 2 (gCons (gName 4) (gCons (gName 5) gNil))) rfl scNT.nd (pi_items (pe_frz (pv 1))) (blkOk_by (by rfl))
      (fun _ _ _ _ _ => pg_tup rfl (pgs_cons (pg_name (i := 4) scNT.nd rfl (Or.inl rfl)) (pgs_cons (pg_name (i := 5) scNT.nd rfl (Or.inl rfl)) pgs_nil))) (fun _ _ _ _ _ => pts_nil) (fun _ _ _ _ _ => pv 4) (fun _ _ _ _ _ => pe_frz (eSortS K T (pv 5)))))))), ?_⟩
  walk_at "nf"
  refine r_p0 hn fun w0 hw0 => ?_
  obtain ⟨p0, xs0, rfl, hp0, hx0⟩ := at_list.mp hw0
  refine dc_tup true (fun R h => h) (l := n.1) ⟨.inl hp0, hx0⟩ (fun H' b v => ∃ a, v = .ref a ∧ H a = none ∧ H' a = some (.lst [])) (fun H H' D kvs a v e o ⟨b, e1, e0, e2⟩ => ⟨b, e1, e0, o b _ (fun z => by rw [z, e] at e2; cases e2) e2⟩) (fun _ => true) id (fun _ => ()) (small64 (Nat.le_trans ok.len (by decide)))
    (by rw [filter_true, List.map_id]; exact ok.nd) (fun a x H2 R ha s2 hx kp dr => ?_) fun D kvs H1 hD s1 hD' hk hp hnd => ?_
  · rw [at_str.mp hx]
    refine ⟨rfl, ?_⟩
    walk_at "nf"
    exact ⟨by decide, fun l hl => kp (.ref l) _ (.new hl) rfl ⟨l, rfl, s2.free hl, upd_same⟩ fun _ => ⟨l, _, rfl, hl, upd_same, fun kvs e => by cases e⟩⟩
  obtain ⟨t, rfl, tk, tp⟩ := kvs_addr (ks := n.1) (by rw [hk, filter_true]; rfl) hp
  have tnd : (t.map (·.2)).Nodup := by
    have := hnd rfl
    rw [strK_vals] at this
    exact (List.pairwise_map.mp this).imp fun h e => h (congrArg V.ref e)
  have tgv : ∀ a ∈ n.1, ∃ p, gv t a = some p := fun a ha => gv_key (by rw [tk]; exact ha)
  have tin : ∀ a p, gv t a = some p → ∀ z ∈ t, z.2 = p → z.1 = a := fun a p e z hz ez => by
    have := nodup_inj (f := Prod.snd) tnd hz (gv_some e) ez
    rw [this]
  have tkn : (t.map (·.1)).Nodup := by rw [tk]; exact ok.nd
  have teq : ∀ a p, gv t a = some p → ∀ z ∈ t, z.1 = a → z.2 = p := fun a p e z hz ez => by
    have := nodup_inj (f := Prod.fst) tkn hz (gv_some e) ez
    rw [this]
  refine r_p1 (hn.same s1) fun w1 hw1 => ?_
  obtain ⟨p1, xs1, rfl, hp1, hx1⟩ := at_list.mp hw1
  refine for_tup (fun R h => h) (l := n.2) ⟨.inl hp1, hx1⟩ (fun i σ' H' => ∃ u2 u3, σ' = [some v, some (.ref D), u2, u3, none, none] ∧ H' D = some (.dK (strK V.ref t)) ∧ (∀ p ∈ t, H' p.2 = some (.lst ((adj (n.2.take i) p.1).map V.str))) ∧ Same H H' ∧ TupS H1 H')
    (fun i σ' H' ⟨_, _, _, _, _, _, h⟩ => h) ⟨none, none, rfl, hD', fun p hp => (tp p hp).2, s1, .refl⟩ (fun i a x σ' H' ha hp hx => ?_) fun σ' H' hp => ?_
  · obtain ⟨u2, u3, rfl, g1, g2, g3, g4⟩ := hp
    obtain ⟨a1, a2⟩ := a
    have hmem : (a1, a2) ∈ n.2 := List.mem_of_getElem? ha
    obtain ⟨k1, k2, k3⟩ := ok.tk _ hmem
    obtain ⟨q1, e1⟩ := tgv a1 k1
    obtain ⟨q2, e2⟩ := tgv a2 k2
    have z1 := g2 _ (gv_some e1)
    have z2 := g2 _ (gv_some e2)
    have hne : q2 ≠ q1 := fun e => k3 (tin a1 q1 e1 _ (gv_some e2) e).symm
    have hD1 : D ≠ q1 := ne_of g1 z1 (by intro z; cases z)
    have hD2 : D ≠ q2 := ne_of g1 z2 (by intro z; cases z)
    have len : ∀ s, ((adj (n.2.take i) s).map V.str).length ≤ 1000 := fun s => by
      rw [List.length_map]
      have := adj_len (s := s) (talks := n.2.take i) fun p hp => (ok.tk p (List.mem_of_mem_take hp)).2.2
      rw [List.length_take] at this
      have := ok.tlen
      omega
    refine g_pair (a := a1) (b := a2) hx fun y1 y2 h1 h2 => ?_
    rw [at_str.mp h1, at_str.mp h2]
    walk_at "nf"
    refine ⟨D, _, rfl, DGet.strS g1 e1, r_app z1 (len _) ?_⟩
    refine ⟨D, _, rfl, DGet.strS (t := t) (by rw [upd_ne hD1]; exact g1) e2, r_app (xs := (adj (n.2.take i) a2).map V.str) (by rw [upd_ne hne]; exact z2) (len _) ?_⟩
    refine ⟨_, _, rfl, by rw [upd_ne hD2, upd_ne hD1]; exact g1, fun p hp => ?_, (g3.put (tp _ (gv_some e1)).1).put (tp _ (gv_some e2)).1, (g4.trans (.lst z1)).trans (.lst (ys := (adj (n.2.take i) a2).map V.str) (by rw [upd_ne hne]; exact z2))⟩
    have ez := g2 p hp
    rw [List.take_add_one, ha, Option.toList_some, adj_snoc]
    show _ = some (HO.lst ((adj (n.2.take i) p.1 ++ ((if a1 = p.1 then [a2] else []) ++ (if a2 = p.1 then [a1] else []))).map V.str))
    by_cases c2 : p.1 = a2
    · have c2' := teq a2 q2 e2 p hp c2
      rw [c2', upd_same, c2, if_neg k3, if_pos rfl]
      simp
    · have c2' : p.2 ≠ q2 := fun e => c2 (tin a2 q2 e2 p hp e)
      rw [upd_ne c2', if_neg (fun e : a2 = p.1 => c2 e.symm)]
      by_cases c1 : p.1 = a1
      · have c1' := teq a1 q1 e1 p hp c1
        rw [c1', upd_same, c1, if_pos rfl]
        simp
      · have c1' : p.2 ≠ q1 := fun e => c1 (tin a1 q1 e1 p hp e)
        rw [upd_ne c1', if_neg (fun e : a1 = p.1 => c1 e.symm), ez]
        simp
  · obtain ⟨u2, u3, rfl, g1, g2, g3, g4⟩ := hp
    rw [List.take_length] at g2
    walk_at "nf"
    refine ⟨D, _, rfl, g1, trivial, fun od => ?_⟩
    refine dc_items false (fun R h => h) (upd_same) (fun H b v => ∃ ys : List Str, ys.Perm b ∧ RList H ys v) (Stab.dict fun H H' b v k ⟨ys, y1, y2⟩ => ⟨ys, y1, stab_list _ _ _ _ k y2⟩) (fun _ => true) keyS (fun kv => adj n.2 (keyS kv))
      (by rw [strK_len, ← List.length_map (f := fun p : Str × Addr => p.1), tk]; exact small64 (Nat.le_trans ok.len (by decide))) ?_ (fun a x H2 R ha s2 hx kp dr => ?_) fun D2 kvs H2 hD2 s2 hD2' hk2 hp2 _ => ?_
    · rw [filter_true]
      have : (strK V.ref t).map keyS = t.map (·.1) := by unfold strK; rw [List.map_map]; rfl
      rw [this]; exact tkn
    · obtain ⟨z, hz, rfl⟩ := List.mem_map.mp ha
      refine g_item hx ⟨rfl, ?_⟩
      walk_at "nf"
      have hl : ((adj n.2 z.1).map V.str).length ≤ 1000 := by
        rw [List.length_map]
        have := adj_len (s := z.1) (talks := n.2) fun p hp => (ok.tk p hp).2.2
        have := ok.tlen
        omega
      have hzD : z.2 ≠ D := fun e => by
        have h1 := g2 z hz
        rw [e, g1] at h1; cases h1
      refine ⟨z.2, adj n.2 z.1, rfl, .of (s2 _ _ (by rw [upd_ne hzD]; exact g2 z hz)), ?_, fun ys p2 py sy h2 => ⟨p2, _, rfl, upd_same, trivial, fun od2 => ?_⟩⟩
      · have := adj_len (s := z.1) (talks := n.2) fun p hp => (ok.tk p hp).2.2
        have := ok.tlen
        omega
      · rw [upd_upd]
        exact kp _ _ (.new h2) rfl ⟨ys, py, p2, od2, rfl, upd_same⟩ (fun h => by cases h)
    · refine ⟨D2, _, rfl, hD2', trivial, fun od2 => ?_⟩
      have e1 : ((strK V.ref t).filter fun _ => true).map (fun kv => adj n.2 (keyS kv)) = n.1.map (adj n.2) := by
        rw [filter_true, ← tk]; unfold strK; rw [List.map_map, List.map_map]; rfl
      have e2 : ((strK V.ref t).filter fun _ => true).map (fun a => (Sum.inr (keyS a) : Key)) = n.1.map fun a => (Sum.inr a : Key) := by
        rw [filter_true, ← tk]; unfold strK; rw [List.map_map, List.map_map]; rfl
      rw [e1] at hp2
      rw [e2] at hk2
      obtain ⟨tb, b1, b2, b3⟩ := perm_lists hp2
      have hDn : H D2 = none := by
        rw [upd_ne (fun e => by rw [e, upd_same] at hD2; cases hD2)] at hD2
        exact g3.free hD2
      have s3 : Same H (upd H2 D2 (.frz od2 (.dK kvs))) := ((g3.put (show H D = none from hD)).trans s2).put hDn
      refine q D2 tb _ s3 hDn ⟨od2, kvs, upd_same, ?_, Paired.mapP b2 fun b v hb => stab_list _ _ _ _ (TupS.dK hD2') hb⟩ ⟨b1, b3⟩
      rw [hk2, ← b1, List.map_map]; rfl
end
end G3
end

/-! ## G3Lone -/
section
set_option Elab.async false
set_option linter.all false
set_option maxRecDepth 100000
set_option maxHeartbeats 4000000
local macro_rules | `(tactic| walk_at "nf") => `(tactic| simp only [L2.tRet, L2.tRetN, L2.tAndV, L2.tOrV, L2.tNotV, L2.tCB, L2.tCons, L2.tNil, L2.tVar, L2.tC, L2.tDIn, L2.tDNotIn, L2.tDGet, L2.tOp, L2.tUn, L2.tTest, L2.tB, L2.tIf, L2.tIfS, L2.tAnd, L2.tOr, L2.tNot, L2.tSeq, L2.tAsg, L2.gName, L2.tDrop, L2.tNext, L2.tCall, L2.tTup, L2.tLst, L2.tBM, L2.tBM0, L2.tSl, L2.tPart, L2.tNoPart, L2.sDPut, L2.tFld, L2.sFld, L2.tMeth, L2.tYes, L2.gTup, L2.gCons, L2.gNil, L2.tIsN, L2.tNotN, L2.tPar, L2.tPar3, L2.tDNewK, L2.tDisp, L2.tPairs, L2.tDGet1, G3.dcT_op, G3.tFrz, G3.dcI_frz, G3.lcI_frz, G3.lcY_frz, G3.lcI_call, G3.lcL_call, G3.lcL_op, G3.lcL_dget, G3.lcT_call, G3.lcT_op, G3.lcT_dget, G3.forL_call, G3.forL_op, G3.forL_dget, G3.forT_call, G3.forT_op, G3.forT_dget, G3.ex_l1, G3.ex_l2, G3.ex_l3,
  G3.start_eq, G3.cxOf_K, G3.wipe_nil, G3.wipe_cons, List.map_cons, List.map_nil, List.nil_append, List.cons_append, List.append_nil, List.getElem?_cons_zero, List.getElem?_cons_succ, List.set_cons_zero, List.set_cons_succ, List.set_nil, List.length_cons, List.length_nil, List.replicate, Option.some.injEq, G3.ex_eq, Nat.reduceAdd, Nat.reduceSub, Nat.zero_add, List.replicate_succ, List.replicate_zero, true_and, if_true, if_false, Bool.false_eq_true, Nat.add_zero, Int.add_zero])
namespace G3
open PySem PySem.Spec PyProof.Rows L2

/-- the services without talks -/
def lones (n : Net) : List Str := n.1.filter fun s => (adj n.2 s).isEmpty
def spLone : Sp := fun vs H Q _ => ∃ (n : Net) (v : V), vs = [v] ∧ NetAt H n v ∧ NetOk n ∧ ∀ p H', Same H H' → At H' (lones n) (.ref p) → Q (.ref p) H'
theorem r_eqNil {α : Type} [Enc α] {K : PySem.W.Frag} {H : Hp} {l : List α} {p q : Addr} {xs : List V} {Q : VK} (h : SqL K H p xs) (hx : Al H l xs) (hq : H q = some (.lst [])) (o : ∀ a ∈ l, Enc.ok a) (r : Q (.bl l.isEmpty) H) (hd : Enc.dep α ≤ 60 := by decide) : rEqD K (.ref p) (.ref q) H Q := by
  refine ⟨.list (l.map Enc.enc), .list [], .lst h (IsL.dp _ _ hx), .lst (.of hq) .nil, ?_, rfl, ?_⟩
  · unfold SeqAt.shaped
    rw [canL l o, Bool.true_and]
    refine decide_eq_true ?_
    have := depAll l
    simp only [PyData.depth]
    omega
  · cases l with
    | nil => exact r
    | cons a l => exact r
theorem tbl_len {n : Net} {t : Tbl} (h : NbOk n t) (ok : NetOk n) : t.length ≤ 10 := by
  have := congrArg List.length h.keys
  rw [List.length_map] at this
  rw [this]; exact ok.len
theorem nbs_ok {n : Net} {t : Tbl} (h : NbOk n t) (ok : NetOk n) {p : Str × List Str} (hp : p ∈ t) : ∀ a ∈ p.2, Enc.ok a ∧ a ∈ n.1 := fun a ha => by
  have := mem_adj.mp ((h.nb p hp).mem_iff.mp ha)
  rcases this with h | h
  · exact ⟨ok.ok _ (ok.tk _ h).2.1, (ok.tk _ h).2.1⟩
  · exact ⟨ok.ok _ (ok.tk _ h).1, (ok.tk _ h).1⟩
theorem nbs_len {n : Net} {t : Tbl} (h : NbOk n t) (ok : NetOk n) {p : Str × List Str} (hp : p ∈ t) : p.2.length ≤ 40 := by
  rw [(h.nb p hp).length_eq]
  exact Nat.le_trans (adj_len fun p hp => (ok.tk p hp).2.2) ok.tlen
/-- the row of the table at an item of the dict -/
theorem tbl_item {H : Hp} : ∀ {t : Tbl} {kvs : List (Key × V)}, kvs.map (·.1) = t.map (fun p => (Sum.inr p.1 : Key)) → Paired (RList H) (t.map (·.2)) (kvs.map (·.2)) → ∀ kv ∈ kvs, ∃ p ∈ t, kv.1 = .inr p.1 ∧ RList H p.2 kv.2
  | [], kvs, h1, h2, kv, hk => by
    cases kvs with
    | nil => cases hk
    | cons a b => cases h1
  | p :: t, [], h1, h2, kv, hk => nomatch hk
  | p :: t, q :: kvs, h1, h2, kv, hk => by
    rw [List.map_cons, List.map_cons] at h1 h2
    obtain ⟨e1, e2⟩ := List.cons.inj h1
    cases h2 with
    | cons h3 h4 =>
      rcases List.mem_cons.mp hk with e | hk
      · exact ⟨p, by simp, by rw [e]; exact e1, by rw [e]; exact h3⟩
      · obtain ⟨p', h5, h6⟩ := tbl_item e2 h4 kv hk
        exact ⟨p', List.mem_cons_of_mem _ h5, h6⟩
theorem filter_keys {t : Tbl} {kvs : List (Key × V)} {n : Net} (h : NbOk n t) (hk : kvs.map (·.1) = t.map (fun p => (Sum.inr p.1 : Key))) : ((kvs.filter fun kv => (adj n.2 (keyS kv)).isEmpty).map keyS) = lones n := by
  have e : kvs.map keyS = n.1 := by
    rw [← h.keys]
    have : kvs.map keyS = (kvs.map (·.1)).map fun k => match k with
      | .inr x => x
      | .inl _ => ⟨#[]⟩ := by rw [List.map_map]; rfl
    rw [this, hk, List.map_map]; rfl
  unfold lones
  rw [← e, List.filter_map]
  rfl
section
variable {P : Program} {w : World} {K : PySem.W.Frag} {mg : Str → Option Value} {base : Heap}
theorem ok_neighbours (T : Bt mg) (G1 : Df P w K mg base CX0 2 "check_service" ["network", "value"] spCheckService) (G2 : Df P w K mg base CX0 1 "neighbour_table" ["network"] spNeighbourTable) (F : St0 K mg "neighbours" sNeighbours) : Df P w K mg base CX0 3 "neighbours" ["network", "service"] spNeighbours := by
  refine F.ok0 scNbs (fun vs H Q E h => ?_) (fun _ _ _ _ _ _ us hl => match us, hl with | [_, _], _ => rfl) fun f cdv A outer s H vs Q E hr h => ?_
  · obtain ⟨n, v, x, rfl, _⟩ := h
    rfl
  obtain ⟨n, v, x, rfl, hn, ok, hx, q⟩ := h
  refine ⟨_, pss_cons (ps_expr (pe_df G1 hr pass0 (pa_cons (pv 0) (pa_cons (pv 1) pa_nil)))) (pss_one (ps_ret (eTup K T (pe_dget (hu_of hr) (pe_df G2 hr pass0 (pa_cons (pv 0) pa_nil)) (pv 1) (fun _ _ => rfl))))), ?_⟩
  walk_at "nf"
  refine ⟨n, v, x, rfl, hn, hx, fun H1 s1 => ⟨n, v, rfl, hn.same s1, ok, fun d t H2 s2 hd ht nb => ?_⟩⟩
  obtain ⟨e1, e2⟩ := nb.get hx
  obtain ⟨v1, e3, a, o, rfl, ha⟩ := ht.get e1
  refine ⟨d, _, rfl, e3, a, _, rfl, .inl ⟨.inl (.inr ⟨o, ha⟩), fun p hp => ?_⟩⟩
  exact q p (nbs t x) _ ((s1.trans s2).snew hp) e2 (nbs_len nb ok (gv_some e1)) (.new hp (al_str.mpr rfl))
theorem ok_lone (T : Bt mg) (G2 : Df P w K mg base CX0 1 "neighbour_table" ["network"] spNeighbourTable) (F : St0 K mg "lone" sLone) : Df P w K mg base CX0 2 "lone" ["network"] spLone := by
  refine F.ok0 scLone (fun vs H Q E h => ?_) (fun _ _ _ _ _ _ us hl => match us, hl with | [_], _ => rfl) fun f cdv A outer s H vs Q E hr h => ?_
  · obtain ⟨n, v, rfl, _⟩ := h
    rfl
  obtain ⟨n, v, rfl, hn, ok, q⟩ := h
  refine ⟨_, pss_one (ps_ret (eTup K T (pe_lc (own := [("service", 1), ("some", 2)]) (g := gTup K 2 (gCons (gName 1) (gCons (gName 2) gNil))) rfl scLone.nd (pi_items (pe_df G2 hr pass0 (pa_cons (pv 0) pa_nil))) (blkOk_by (by rfl))
    (fun _ _ _ _ _ => pg_tup rfl (pgs_cons (pg_name (i := 1) scLone.nd rfl (Or.inl rfl)) (pgs_cons (pg_name (i := 2) scLone.nd rfl (Or.inl rfl)) pgs_nil)))
    (fun _ _ _ _ _ => pts_one (pt_cmpR (opEqD K hr.units) (pv 2) (pe_lst pa_nil) (nomark _))) (fun _ _ _ _ _ => pv 1)))), ?_⟩
  walk_at "nf"
  refine ⟨n, v, rfl, hn, ok, fun d t H2 s2 hd ht nb => ?_⟩
  obtain ⟨od, kvs, h1, h2, h3⟩ := id ht
  have hlen : kvs.length = t.length := by
    have := congrArg List.length h2
    simpa using this
  refine lc_items (fun R h => h) h1 RAt stab_at (fun kv => (adj n.2 (keyS kv)).isEmpty) keyS (by rw [hlen]; exact small64 (Nat.le_trans (tbl_len nb ok) (by decide))) (fun kv x H3 R hkv s3 hx kp dr => ?_) fun D ys H3 hD s3 hD' hp => ?_
  · obtain ⟨p, hp, ek, a, o, ev, ha⟩ := tbl_item h2 h3 kv hkv
    have es : keyS kv = p.1 := by unfold keyS; rw [ek]
    have ee : (adj n.2 (keyS kv)).isEmpty = p.2.isEmpty := by
      rw [es]
      have hl := (nb.nb p hp).length_eq
      cases e1 : p.2 with
      | nil => rw [e1] at hl; cases e2 : adj n.2 p.1 with
        | nil => rfl
        | cons a b => rw [e2] at hl; cases hl
      | cons a b => rw [e1] at hl; cases e2 : adj n.2 p.1 with
        | nil => rw [e2] at hl; cases hl
        | cons a b => rfl
    rw [ee] at kp dr
    refine g_item hx ⟨rfl, ?_⟩
    rw [ek, ev]
    walk_at "nf"
    refine ⟨by decide, fun l hl => r_eqNil (l := p.2) (.inl (.inr ⟨o, by rw [upd_ne (ne_of_none (s3 _ _ ha) hl)]; exact s3 _ _ ha⟩)) (al_str.mpr rfl) upd_same (fun a ha => (nbs_ok nb ok hp a ha).1) ⟨_, rfl, ?_⟩⟩
    cases e : p.2.isEmpty with
    | true => exact iteT (kp _ _ (.new hl) e (by rw [es]; rfl))
    | false => exact iteF (dr _ (.new hl) e)
  · rw [filter_keys nb h2] at hp
    exact r_tupL hD' hp fun p hp' ha => q p _ ((s2.trans s3).snew hp') ha
end
end G3
end

/-! ## G3Trees -/
section
set_option Elab.async false
set_option linter.all false
set_option maxRecDepth 100000
set_option maxHeartbeats 4000000
local macro_rules | `(tactic| walk_at "nf") => `(tactic| simp only [L2.tRet, L2.tRetN, L2.tAndV, L2.tOrV, L2.tNotV, L2.tCB, L2.tCons, L2.tNil, L2.tVar, L2.tC, L2.tDIn, L2.tDNotIn, L2.tDGet, L2.tOp, L2.tUn, L2.tTest, L2.tB, L2.tIf, L2.tIfS, L2.tAnd, L2.tOr, L2.tNot, L2.tSeq, L2.tAsg, L2.gName, L2.tDrop, L2.tNext, L2.tCall, L2.tTup, L2.tLst, L2.tBM, L2.tBM0, L2.tSl, L2.tPart, L2.tNoPart, L2.sDPut, L2.tFld, L2.sFld, L2.tMeth, L2.tYes, L2.gTup, L2.gCons, L2.gNil, L2.tIsN, L2.tNotN, L2.tPar, L2.tPar3, L2.tDNewK, L2.tDisp, L2.tPairs, L2.tDGet1, G3.dcT_op, G3.tFrz, G3.dcI_frz, G3.lcI_frz, G3.lcY_frz, G3.lcI_call, G3.lcL_call, G3.lcL_op, G3.lcL_dget, G3.lcT_call, G3.lcT_op, G3.lcT_dget, G3.forL_call, G3.forL_op, G3.forL_dget, G3.forT_call, G3.forT_op, G3.forT_dget, G3.ex_l1, G3.ex_l2, G3.ex_l3,
  G3.start_eq, G3.cxOf_K, G3.wipe_nil, G3.wipe_cons, List.map_cons, List.map_nil, List.nil_append, List.cons_append, List.append_nil, List.getElem?_cons_zero, List.getElem?_cons_succ, List.set_cons_zero, List.set_cons_succ, List.set_nil, List.length_cons, List.length_nil, List.replicate, Option.some.injEq, G3.ex_eq, Nat.reduceAdd, Nat.reduceSub, Nat.zero_add, List.replicate_succ, List.replicate_zero, true_and, if_true, if_false, Bool.false_eq_true, Nat.add_zero, Int.add_zero])
namespace G3
open PySem PySem.Spec PyProof.Rows L2

abbrev sTrees : Stmt := top 26
theorem scTrees : FnScope ["network", "table", "found", "seen", "root", "tree", "waiting", "service", "fresh", "other"] ["network"] (defScope sTrees) := ⟨rfl, rfl, rfl, by decide +kernel, rfl, by decide +kernel, by decide +kernel⟩
abbrev Tree := List (Str × Int)
def RNode : Rel Int := fun H l v => ∃ a u, v = .ref a ∧ H a = some (.tup [.int l, u])
theorem stab_node : Stab RNode := fun H H' l v k ⟨a, u, e1, e2⟩ => ⟨a, u, e1, k _ _ e2 rfl⟩
def TreeK (H : Hp) (tr : Tree) (kvs : List (Key × V)) : Prop := kvs.map (·.1) = tr.map (fun p => (Sum.inr p.1 : Key)) ∧ Paired (RNode H) (tr.map (·.2)) (kvs.map (·.2))
def RTree : Rel Tree := fun H tr v => ∃ d od kvs, v = .ref d ∧ H d = some (.frz od (.dK kvs)) ∧ TreeK H tr kvs
theorem TreeK.tup {H H' : Hp} {tr : Tree} {kvs : List (Key × V)} (h : TreeK H tr kvs) (k : TupS H H') : TreeK H' tr kvs := ⟨h.1, Paired.mapP h.2 fun b v q => stab_node _ _ b v k q⟩
theorem stab_tree : Stab RTree := fun H H' tr v k ⟨d, od, kvs, e1, e2, e3⟩ => ⟨d, od, kvs, e1, k _ _ e2 rfl, e3.tup k⟩
structure TreeOk (n : Net) (tr : Tree) : Prop where
  nd : (tr.map (·.1)).Nodup
  sub : ∀ p ∈ tr, p.1 ∈ n.1
  bit : ∀ s l, gv tr s = some l → (l = 0 ∨ l = 1) ∧ ∀ t, (s, t) ∈ n.2 ∨ (t, s) ∈ n.2 → gv tr t = some (1 - l)
/-- while the tree grows: wt waits, c0 the root's side -/
structure Grow (n : Net) (c : Str → Bool) (c0 : Bool) (tr : Tree) (wt : List Str) : Prop where
  nd : (tr.map (·.1)).Nodup
  sub : ∀ p ∈ tr, p.1 ∈ n.1
  lev : ∀ p ∈ tr, p.2 = if c p.1 = c0 then 0 else 1
  wsub : ∀ s ∈ wt, s ∈ tr.map (·.1)
  wlen : wt.length ≤ tr.length
  cl : ∀ s ∈ tr.map (·.1), s ∉ wt → ∀ t, (s, t) ∈ n.2 ∨ (t, s) ∈ n.2 → t ∈ tr.map (·.1)
theorem Grow.len {n : Net} {c : Str → Bool} {c0 : Bool} {tr : Tree} {wt : List Str} (g : Grow n c c0 tr wt) (ok : NetOk n) : tr.length ≤ 10 := by
  have := nodup_len (m := n.1) g.nd fun a ha => by
    obtain ⟨p, hp, rfl⟩ := List.mem_map.mp ha
    exact g.sub p hp
  rw [List.length_map] at this
  exact Nat.le_trans this ok.len
theorem Grow.start {n : Net} {c : Str → Bool} {r : Str} (hr : r ∈ n.1) : Grow n c (c r) [(r, 0)] [r] where
  nd := by simp
  sub := fun p hp => by rw [List.mem_singleton.mp hp]; exact hr
  lev := fun p hp => by rw [List.mem_singleton.mp hp, if_pos rfl]
  wsub := fun s hs => by rw [List.mem_singleton.mp hs]; simp
  wlen := Nat.le_refl _
  cl := fun s hs hw => absurd (by simpa using hs) hw
/-- s goes from the waiting, its new neighbours come -/
theorem Grow.step {n : Net} {c : Str → Bool} {c0 : Bool} {tr : Tree} {s : Str} {wt nbl : List Str} {l : Int} (g : Grow n c c0 tr (s :: wt)) (ok : NetOk n) (hc : ∀ p ∈ n.2, c p.1 ≠ c p.2) (hl : gv tr s = some l) (hn : nbl.Perm (adj n.2 s)) :
    Grow n c c0 (tr ++ (nbl.filter fun o => !decide (o ∈ tr.map (·.1))).map fun o => (o, 1 - l)) (wt ++ nbl.filter fun o => !decide (o ∈ tr.map (·.1))) := by
  have hs : s ∈ n.1 := g.sub _ (gv_some hl)
  have fr : ∀ o, o ∈ (nbl.filter fun o => !decide (o ∈ tr.map (·.1))) ↔ ((s, o) ∈ n.2 ∨ (o, s) ∈ n.2) ∧ o ∉ tr.map (·.1) := fun o => by
    rw [List.mem_filter, hn.mem_iff, mem_adj]
    simp
  have keys : (tr ++ (nbl.filter fun o => !decide (o ∈ tr.map (·.1))).map fun o => (o, 1 - l)).map (·.1) = tr.map (·.1) ++ nbl.filter fun o => !decide (o ∈ tr.map (·.1)) := by
    rw [List.map_append, List.map_map]
    congr 1
    exact List.map_id _
  refine ⟨?_, fun p hp => ?_, fun p hp => ?_, fun z hz => ?_, ?_, fun z hz hw t ht => ?_⟩
  · rw [keys, List.nodup_append]
    refine ⟨g.nd, ?_, fun a ha b hb e => ?_⟩
    · exact (hn.nodup_iff.mpr (ok.nbn s hs)).sublist List.filter_sublist
    · rw [e] at ha
      exact ((fr b).mp hb).2 ha
  · rcases List.mem_append.mp hp with hp | hp
    · exact g.sub p hp
    · obtain ⟨o, ho, rfl⟩ := List.mem_map.mp hp
      rcases ((fr o).mp ho).1 with h | h
      · exact (ok.tk _ h).2.1
      · exact (ok.tk _ h).1
  · rcases List.mem_append.mp hp with hp | hp
    · exact g.lev p hp
    · obtain ⟨o, ho, rfl⟩ := List.mem_map.mp hp
      have e1 : l = if c s = c0 then 0 else 1 := g.lev _ (gv_some hl)
      have e2 : c s ≠ c o := by
        rcases ((fr o).mp ho).1 with h | h
        · exact hc _ h
        · exact (hc _ h).symm
      show 1 - l = if c o = c0 then 0 else 1
      rw [e1]
      revert e2
      cases c s <;> cases c o <;> cases c0 <;> simp
  · rw [keys]
    rcases List.mem_append.mp hz with hz | hz
    · exact List.mem_append_left _ (g.wsub z (List.mem_cons_of_mem _ hz))
    · exact List.mem_append_right _ hz
  · have := g.wlen
    rw [List.length_cons] at this
    rw [List.length_append, List.length_append, List.length_map]
    omega
  · rw [keys] at hz ⊢
    rcases List.mem_append.mp hz with h | h
    · by_cases e : z = s
      · subst e
        by_cases ht' : t ∈ tr.map (·.1)
        · exact List.mem_append_left _ ht'
        · exact List.mem_append_right _ ((fr t).mpr ⟨ht, ht'⟩)
      · refine List.mem_append_left _ (g.cl z h (fun hw' => ?_) t ht)
        rcases List.mem_cons.mp hw' with e' | hw'
        · exact e e'
        · exact hw (List.mem_append_left _ hw')
    · exact absurd (List.mem_append_right _ h) hw
theorem Grow.done {n : Net} {c : Str → Bool} {c0 : Bool} {tr : Tree} (g : Grow n c c0 tr []) (hc : ∀ p ∈ n.2, c p.1 ≠ c p.2) : TreeOk n tr := by
  refine ⟨g.nd, g.sub, fun s l hl => ?_⟩
  have e1 : l = if c s = c0 then 0 else 1 := g.lev _ (gv_some hl)
  refine ⟨by rw [e1]; by_cases h : c s = c0 <;> simp [h], fun t ht => ?_⟩
  obtain ⟨l', e⟩ := gv_key (g.cl s (key_of_gv hl) (by simp) t ht)
  have e2 : l' = if c t = c0 then 0 else 1 := g.lev _ (gv_some e)
  have e3 : c s ≠ c t := by
    rcases ht with h | h
    · exact hc _ h
    · exact (hc _ h).symm
  rw [e, e1, e2]
  revert e3
  cases c s <;> cases c t <;> cases c0 <;> simp
def spTrees : Sp := fun vs H Q _ => ∃ (n : Net) (v : V), vs = [v] ∧ NetAt H n v ∧ NetOk n ∧ ∀ D ds trs H', Same H H' → H D = none → H' D = some (.lst ds) → Paired (RTree H') trs ds → (∀ tr ∈ trs, TreeOk n tr) → (∀ s ∈ n.1, ∃ tr ∈ trs, s ∈ tr.map (·.1)) → trs.length ≤ 10 → Q (.ref D) H'
def seenK (sn : List Str) : List (Key × V) := sn.map fun s => (Sum.inr s, V.bl true)
theorem seen_get {sn : List Str} {s : Str} : (valV (seenK sn) (.inr s)).isSome = decide (s ∈ sn) := by
  induction sn with
  | nil => simp [seenK, valV]
  | cons a sn ih =>
    have e : seenK (a :: sn) = (Sum.inr a, V.bl true) :: seenK sn := rfl
    rw [e, valV_gv, gv_cons]
    by_cases h : a = s
    · rw [if_pos (by rw [h])]; simp [h]
    · rw [if_neg (fun z => h (Sum.inr.inj z)), ← valV_gv, ih]
      simp only [List.mem_cons, show (s = a) = False from eq_false (fun z => h z.symm), false_or]
theorem pairedApp {α β : Type} {F : α → β → Prop} : ∀ {l : List α} {m : List β} {l' : List α} {m' : List β}, Paired F l m → Paired F l' m' → Paired F (l ++ l') (m ++ m')
  | _, _, _, _, .nil, q => q
  | _, _, _, _, .cons h t, q => .cons h (pairedApp t q)
theorem seen_put {sn : List Str} {s : Str} : putK (seenK sn) (.inr s) (.bl true) = seenK (if s ∈ sn then sn else sn ++ [s]) := by
  have hg := seen_get (sn := sn) (s := s)
  by_cases h : s ∈ sn
  · rw [if_pos h]
    have e : (seenK sn).any (fun kv => decide (kv.1 = Sum.inr s)) = true := List.any_eq_true.mpr ⟨(Sum.inr s, V.bl true), List.mem_map.mpr ⟨s, h, rfl⟩, decide_eq_true rfl⟩
    unfold putK
    rw [if_pos e]
    unfold seenK
    rw [List.map_map]
    refine List.map_congr_left fun a ha => ?_
    show (if (Sum.inr a : Key) = Sum.inr s then ((Sum.inr a : Key), V.bl true) else _) = _
    by_cases e : (Sum.inr a : Key) = Sum.inr s
    · rw [if_pos e]
    · rw [if_neg e]
  · rw [if_neg h, putK_new]
    · unfold seenK; rw [List.map_append]; rfl
    · rw [decide_eq_false h] at hg
      cases e : valV (seenK sn) (.inr s) with
      | none => rfl
      | some b => rw [e] at hg; cases hg
theorem seen_len {sn : List Str} : (seenK sn).length = sn.length := by simp [seenK]
theorem tree_get {H : Hp} {x : Str} : ∀ {tr : Tree} {kvs : List (Key × V)}, TreeK H tr kvs → (valV kvs (.inr x)).isSome = decide (x ∈ tr.map (·.1)) ∧ ∀ l, gv tr x = some l → ∃ a u, valV kvs (.inr x) = some (.ref a) ∧ H a = some (.tup [.int l, u])
  | [], [], h => ⟨by simp [valV], fun l e => by cases e⟩
  | [], q :: kvs, h => by cases h.1
  | p :: tr, [], h => by cases h.1
  | p :: tr, q :: kvs, h => by
    obtain ⟨h1, h2⟩ := h
    rw [List.map_cons, List.map_cons] at h1 h2
    obtain ⟨e1, e2⟩ := List.cons.inj h1
    cases h2 with
    | cons h3 h4 =>
      obtain ⟨i1, i2⟩ := tree_get (x := x) ⟨e2, h4⟩
      rw [valV_gv, gv_cons, gv_cons, e1]
      by_cases e : p.1 = x
      · rw [if_pos (by rw [e]), if_pos e]
        refine ⟨by simp [e], fun l el => ?_⟩
        cases el
        obtain ⟨a, u, ea, ha⟩ := h3
        exact ⟨a, u, by rw [ea], ha⟩
      · rw [if_neg (fun z => e (Sum.inr.inj z)), if_neg e]
        refine ⟨?_, i2⟩
        rw [← valV_gv, i1]
        simp only [List.map_cons, List.mem_cons, show (x = p.1) = False from eq_false (fun z => e z.symm), false_or]
/-- one tree, half grown; sn what was seen -/
def TrInv (H H2 : Hp) (n : Net) (col : Str → Bool) (trs : List Tree) (ds : List V) (v : V) (root : Str) (dt Fd sd td wd : Addr) (m : Nat) (σ' : L2.St) (H' : Hp) : Prop :=
  ∃ u7 u8, σ' = [some v, some (.ref dt), some (.ref Fd), some (.ref sd), some (.str root), some (.ref td), some (.ref wd), u7, u8, none] ∧ ∃ tr wt kvs sn, H' td = some (.dK kvs) ∧ TreeK H' tr kvs ∧ H' wd = some (.lst (wt.map V.str)) ∧ Grow n col (col root) tr wt ∧
    root ∈ tr.map (·.1) ∧ H' sd = some (.dK (seenK sn)) ∧ (∀ s ∈ sn, (∃ tr ∈ trs, s ∈ tr.map (·.1)) ∨ s ∈ tr.map (·.1)) ∧ sn.Nodup ∧ (∀ s ∈ sn, s ∈ n.1) ∧ H' Fd = some (.lst ds) ∧ Paired (RTree H') trs ds ∧ Same H H' ∧ TupS H2 H' ∧ m = 2 * (10 - tr.length) + wt.length
section
variable {P : Program} {w : World} {K : PySem.W.Frag} {mg : Str → Option Value} {base : Heap}
theorem ok_trees (T : Bt mg) (G : Df P w K mg base CX0 1 "neighbour_table" ["network"] spNeighbourTable) (F : St0 K mg "trees" sTrees) : Df P w K mg base CX0 2 "trees" ["network"] spTrees := by
  refine F.ok0 scTrees (fun vs H Q E h => ?_) (fun _ _ _ _ _ _ us hl => match us, hl with | [_], _ => rfl) fun f cdv A outer s H vs Q E hr h => ?_
  · obtain ⟨n, v, rfl, _⟩ := h
    rfl
  obtain ⟨n, v, rfl, hn, ok, q⟩ := h
  refine ⟨_, pss_cons (ps_par3 (i := 1) (j := 2) (l := 3) rfl scTrees.nd rfl rfl rfl (by decide) (by decide) (by decide) rfl rfl rfl (pa_cons (pe_df G hr pass0 (pa_cons (pv 0) pa_nil)) (pa_cons (pe_lst pa_nil) (pa_cons pe_dnewK pa_nil))) rfl)
    (pss_cons (ps_for PassesOwn.never rfl (piT K (eT K (pv 0) pe_int)) (pg_name (i := 4) scTrees.nd rfl (Or.inl rfl))
      (pss_one (ps_if (pt_cmp (pc_dnotin (hu_of hr) (pv 4) (pv 3)))
        (pss_cons (ps_asg (pe_tup (pa_cons (pe_disp (pps_cons (pv 4) (pe_tup (pa_cons pe_int (pa_cons pe_non pa_nil))) pps_nil) rfl rfl (by simp) (by decide)) (pa_cons (pe_lst (pa_cons (pv 4) pa_nil)) pa_nil)))
            (pg_tup rfl (pgs_cons (pg_name (i := 5) scTrees.nd rfl (Or.inr rfl)) (pgs_cons (pg_name (i := 6) scTrees.nd rfl (Or.inl rfl)) pgs_nil))))
        (pss_cons (ps_while PassesOwn.never (pt_cmpR (opNeD K hr.units) (pv 6) (pe_lst pa_nil) (nomark _))
          (pss_cons (ps_set (i := 7) scTrees.nd rfl (Or.inr rfl) (pe_bm PySem.F.plainAttrs_list PySem.F.slot_list_pop PySem.F.type_list_pop mt_popAt (pv 6) (pa_cons pe_int pa_nil)))
          (pss_cons (ps_dput (hu_of hr) (pv 3) (pv 7) pe_bl rfl)
          (pss_cons (ps_setLc (i := 8) (own := [("other", 9)]) (g := gName 9) rfl scTrees.nd rfl rfl (sw_true rfl rfl rfl (by decide +kernel)) (piL K (pe_dget (hu_of hr) (pv 1) (pv 7) (fun _ _ => rfl))) (blkOk_by (by rfl))
            (fun _ _ _ _ _ => pg_name (i := 9) scTrees.nd rfl (Or.inl rfl)) (fun _ _ _ _ _ => pts_one (pt_cmp (pc_dnotin (hu_of hr) (pv 9) (pv 5)))) (fun _ _ _ _ _ => pv 9))
          (pss_cons (ps_expr (pe_bm PySem.F.plainAttrs_dict PySem.F.slot_dict_update PySem.F.type_dict_update mt_update (pv 5) (pa_cons
            (pe_dc (own := [("other", 9)]) (g := gName 9) rfl scTrees.nd (piL K (pv 8)) (blkOk_by (by rfl)) (fun _ _ _ _ _ => pg_name (i := 9) scTrees.nd rfl (Or.inl rfl)) (fun _ _ _ _ _ => pts_nil) (fun _ _ _ _ _ => pv 9)
              (fun _ _ _ _ _ => pe_tup (pa_cons (pe_op op_sub pe_int (eT K (pe_dget (hu_of hr) (pv 5) (pv 7) (fun _ _ => rfl)) pe_int)) (pa_cons (pv 7) pa_nil)))) pa_nil)))
          (pss_one (ps_expr (pe_bm PySem.F.plainAttrs_list PySem.F.slot_list_extend PySem.F.type_list_extend mt_extend (pv 6) (pa_cons (pv 8) pa_nil)))))))))
        (pss_one (ps_expr (pe_bm PySem.F.plainAttrs_list PySem.F.slot_list_append PySem.F.type_list_append mt_append (pv 2) (pa_cons (pe_frz (pv 5)) pa_nil))))))
        pss_nil)))
    (pss_one (ps_ret (pv 2)))), ?_⟩
  walk_at "nf"
  refine ⟨n, v, rfl, hn, ok, fun dt t H1 s1 hdt ht nb => ?_⟩
  refine ⟨by decide, fun Fd hF sd hsd => ?_⟩
  have hsF : sd ≠ Fd := fun e => by rw [e, upd_same] at hsd; cases hsd
  have hF0 : H Fd = none := s1.free hF
  have hs0 : H sd = none := by rw [upd_ne hsF] at hsd; exact s1.free hsd
  have s2 : Same H (upd (upd H1 Fd (.lst [])) sd (.dK [])) := (s1.snew hF).snew hsd
  have hF2 : upd (upd H1 Fd (.lst [])) sd (.dK []) Fd = some (.lst []) := by rw [upd_ne (Ne.symm hsF), upd_same]
  have hs2 : upd (upd H1 Fd (.lst [])) sd (.dK []) sd = some (.dK []) := upd_same
  have ht2 : TblAt (upd (upd H1 Fd (.lst [])) sd (.dK [])) t dt := ht.tup (((Same.refl H1).snew hF).snew hsd).tupS
  generalize upd (upd H1 Fd (.lst [])) sd (.dK []) = H2 at s2 hF2 hs2 ht2
  refine r_p0 (hn.same s2) fun w0 hw0 => ?_
  obtain ⟨p0, xs0, rfl, hp0, hx0⟩ := at_list.mp hw0
  obtain ⟨col, hcol⟩ := ok.col
  refine for_tup (fun R h => h) (l := n.1) ⟨.inl hp0, hx0⟩ (fun i σ' H' => ∃ u4 u5 u6 u7 u8, σ' = [some v, some (.ref dt), some (.ref Fd), some (.ref sd), u4, u5, u6, u7, u8, none] ∧ ∃ trs ds sn, H' Fd = some (.lst ds) ∧ Paired (RTree H') trs ds ∧ (∀ tr ∈ trs, TreeOk n tr) ∧
      H' sd = some (.dK (seenK sn)) ∧ (∀ s ∈ sn, ∃ tr ∈ trs, s ∈ tr.map (·.1)) ∧ sn.Nodup ∧ (∀ s ∈ sn, s ∈ n.1) ∧ (∀ s ∈ n.1.take i, ∃ tr ∈ trs, s ∈ tr.map (·.1)) ∧ trs.length ≤ i ∧ Same H H' ∧ TupS H2 H')
    (fun i σ' H' ⟨_, _, _, _, _, _, _, _, _, _, _, _, _, _, _, _, _, _, _, h⟩ => h) ⟨_, _, _, _, _, rfl, [], [], [], hF2, .nil, (fun _ h => by cases h), hs2, (fun _ h => by cases h), .nil, (fun _ h => by cases h), (fun _ h => by simp at h), Nat.le_refl _, s2, .refl⟩ (fun i root x σ' H' hroot hp hx => ?_) fun σ' H' hp => ?_
  · obtain ⟨u4, u5, u6, u7, u8, rfl, trs, ds, sn, g1, g2, g3, g4, g5, g6, g7, g8, g9, g10, g11⟩ := hp
    rw [at_str.mp hx]
    have hrm : root ∈ n.1 := List.mem_of_getElem? hroot
    walk_at "nf"
    refine ⟨sd, _, rfl, DGet.k (k := Sum.inr root) g4, _, rfl, ?_⟩
    rw [seen_get]
    by_cases hin : root ∈ sn
    · rw [decide_eq_true hin]
      refine iteF' rfl ⟨_, _, _, _, _, rfl, trs, ds, sn, g1, g2, g3, g4, g5, g6, g7, fun z hz => ?_, by omega, g10, g11⟩
      rw [List.take_add_one, hroot] at hz
      rcases List.mem_append.mp hz with hz | hz
      · exact g8 z hz
      · rw [show z = root by simpa using hz]; exact g5 root hin
    · rw [decide_eq_false hin]
      refine iteT' rfl ?_
      intro td htd
      refine ⟨by decide, fun tp htp => ⟨?_, [(Sum.inr root, .ref tp)], rfl, by simp, by decide, fun wd hwd => ⟨by decide, fun pp hpp => ⟨pp, _, rfl, .of upd_same, rfl, _, _, rfl, _, _, rfl, rfl, ?_⟩⟩⟩⟩
      · rw [upd_ne (updN htp).1.symm, upd_same]
      have htp0 := updN htp
      have hwd0 := updN hwd
      have hwd1 := updN hwd0.2
      have hwd2 := updN hwd1.2
      have hpp0 := updN hpp
      have hpp1 := updN hpp0.2
      have hpp2 := updN hpp1.2
      have s3 : Same H' (upd (upd (upd (upd (upd H' td (.dK [])) tp (.tup [.int 0, .non])) td (.dK (mergeK [] [(Sum.inr root, .ref tp)]))) wd (.lst [.str root])) pp (.tup [.ref td, .ref wd])) :=
        (((((Same.refl H').put htd).put htp0.2).put htd).put hwd2.2).put (updN hpp2.2).2
      have e1 : upd (upd (upd (upd (upd H' td (.dK [])) tp (.tup [.int 0, .non])) td (.dK (mergeK [] [(Sum.inr root, .ref tp)]))) wd (.lst [.str root])) pp (.tup [.ref td, .ref wd]) td = some (.dK [(Sum.inr root, .ref tp)]) := by
        rw [upd_ne hpp1.1.symm, upd_ne hwd0.1.symm, upd_same]; rfl
      have e2 : upd (upd (upd (upd (upd H' td (.dK [])) tp (.tup [.int 0, .non])) td (.dK (mergeK [] [(Sum.inr root, .ref tp)]))) wd (.lst [.str root])) pp (.tup [.ref td, .ref wd]) wd = some (.lst [.str root]) := by
        rw [upd_ne hpp0.1.symm, upd_same]
      have e3 : upd (upd (upd (upd (upd H' td (.dK [])) tp (.tup [.int 0, .non])) td (.dK (mergeK [] [(Sum.inr root, .ref tp)]))) wd (.lst [.str root])) pp (.tup [.ref td, .ref wd]) tp = some (.tup [.int 0, .non]) := by
        rw [upd_ne hpp2.1.symm, upd_ne hwd1.1.symm, upd_ne htp0.1, upd_same]
      generalize upd (upd (upd (upd (upd H' td (.dK [])) tp (.tup [.int 0, .non])) td (.dK (mergeK [] [(Sum.inr root, .ref tp)]))) wd (.lst [.str root])) pp (.tup [.ref td, .ref wd]) = H3 at s3 e1 e2 e3
      have td0 : H td = none := g10.free htd
      have wd0 : H wd = none := g10.free hwd2.2
      have tds : td ≠ sd := fun e => by rw [e, g4] at htd; cases htd
      have wdF : wd ≠ Fd := (ne_of_none g1 hwd2.2).symm
      refine ⟨TrInv H H2 n col trs ds v root dt Fd sd td wd, ⟨_, _, _, rfl, [(root, 0)], [root], _, sn, e1, ⟨rfl, .cons ⟨tp, .non, rfl, e3⟩ .nil⟩, e2, .start hrm, by simp, s3 _ _ g4, fun s hs => .inl (g5 s hs), g6, g7, s3 _ _ g1, Paired.mapP g2 fun b v q => stab_tree _ _ b v s3.tupS q, g10.trans s3, g11.trans s3.tupS, rfl⟩, ?_⟩
      rintro m σ4 H4 ⟨u7', u8', rfl, tr, wt, kvs, sn4, k1, k2, k3, k4, k5, k6, k7, k8, k9, k10, k11, k12, k13, rfl⟩
      walk_at "nf"
      have hwk : ∀ a ∈ wt, a ∈ n.1 := fun a ha => by
        obtain ⟨p, hp, rfl⟩ := List.mem_map.mp (k4.wsub a ha)
        exact k4.sub p hp
      refine ⟨by decide, fun e he => r_neNil (l := wt) (.of (show upd H4 e _ wd = _ by rw [upd_ne (ne_of_none k3 he)]; exact k3)) (al_str.mpr rfl) upd_same (fun a ha => ok.ok a (hwk a ha)) ⟨_, rfl, ?_⟩⟩
      have s5 : Same H4 (upd H4 e (.lst [])) := .new he
      generalize upd H4 e (.lst []) = H5 at s5
      have k1 := s5 _ _ k1
      have k2 := k2.tup s5.tupS
      have k3 := s5 _ _ k3
      have k6 := s5 _ _ k6
      have k10 := s5 _ _ k10
      have k11 : Paired (RTree H5) trs ds := Paired.mapP k11 fun b v q => stab_tree _ _ b v s5.tupS q
      have k12 := k12.trans s5
      have k13 := k13.trans s5.tupS
      have sdF : Fd ≠ sd := ne_of k10 k6 (by intro z; cases z)
      have wds : wd ≠ sd := ne_of k3 k6 (by intro z; cases z)
      have wdt : wd ≠ td := ne_of k3 k1 (by intro z; cases z)
      have Fdt : Fd ≠ td := ne_of k10 k1 (by intro z; cases z)
      have snl : sn4.length ≤ 10 := Nat.le_trans (nodup_len k8 k9) ok.len
      have trl := k4.len ok
      have wtl := k4.wlen
      cases wt with
      | nil =>
        refine iteF' rfl ⟨.inl ⟨rfl, _, .of k10⟩, td, _, rfl, k1, trivial, fun od => ⟨Fd, ds, _, rfl, rfl, by rw [upd_ne Fdt]; exact k10, ?_, _, _, _, _, _, rfl, trs ++ [tr], ds ++ [.ref td], sn4, upd_same, ?_, ?_, ?_, ?_, k8, k9, ?_, ?_, ?_, ?_⟩⟩
        · rw [← k11.length]
          exact small1000 (Nat.le_trans g9 (Nat.le_trans (Nat.le_of_lt (List.getElem?_eq_some_iff.mp hroot).1) (Nat.le_trans ok.len (by decide))))
        · have kt : TupS H5 (upd (upd H5 td (.frz od (.dK kvs))) Fd (.lst (ds ++ [.ref td]))) := (TupS.dK k1).trans (.lst (ys := ds) (by rw [upd_ne Fdt]; exact k10))
          exact Paired.snoc (Paired.mapP k11 fun b v q => stab_tree _ _ b v kt q) ⟨td, od, kvs, rfl, by rw [upd_ne Fdt.symm, upd_same], k2.tup kt⟩
        · intro tr' h
          rcases List.mem_append.mp h with h | h
          · exact g3 tr' h
          · rw [List.mem_singleton.mp h]; exact k4.done hcol
        · rw [upd_ne sdF.symm, upd_ne tds.symm]; exact k6
        · intro s hs
          rcases k7 s hs with ⟨tr', h1, h2⟩ | h
          · exact ⟨tr', List.mem_append_left _ h1, h2⟩
          · exact ⟨tr, by simp, h⟩
        · intro z hz
          rw [List.take_add_one, hroot] at hz
          rcases List.mem_append.mp hz with hz | hz
          · obtain ⟨tr', h1, h2⟩ := g8 z hz
            exact ⟨tr', List.mem_append_left _ h1, h2⟩
          · rw [show z = root by simpa using hz]
            exact ⟨tr, by simp, k5⟩
        · rw [List.length_append, List.length_singleton]; omega
        · exact (k12.put td0).put hF0
        · exact k13.trans ((TupS.dK k1).trans (.lst (ys := ds) (by rw [upd_ne Fdt]; exact k10)))
      | cons sv wt =>
        have hsn : sv ∈ n.1 := hwk sv (by simp)
        obtain ⟨l, hl⟩ := gv_key (k4.wsub sv (by simp))
        obtain ⟨nb1, nb2⟩ := nb.get hsn
        have nbp : (nbs t sv).Perm (adj n.2 sv) := nb.nb _ (gv_some nb1)
        have gs := k4.step ok hcol hl nbp
        refine iteT' rfl ⟨fun σ' H' => ∃ m', m' < 2 * (10 - tr.length) + (sv :: wt).length ∧ TrInv H H2 n col trs ds v root dt Fd sd td wd m' σ' H', fun _ _ h => h, .inl ⟨rfl, _, .of k3⟩, wd, _, 0, 0, .str sv, rfl, rfl, k3, by decide, by decide, by simp [seqIndex?], rfl, ?_⟩
        have sd6 : upd H5 wd (.lst (((sv :: wt).map V.str).eraseIdx 0)) sd = some (.dK (seenK sn4)) := by rw [upd_ne wds.symm]; exact k6
        have kt6 : TupS H5 (upd (upd H5 wd (.lst (((sv :: wt).map V.str).eraseIdx 0))) sd (.dK (putK (seenK sn4) (.inr sv) (.bl true)))) := (TupS.lst k3).trans (.dK sd6)
        have ss6 : Same H (upd (upd H5 wd (.lst (((sv :: wt).map V.str).eraseIdx 0))) sd (.dK (putK (seenK sn4) (.inr sv) (.bl true)))) := (k12.put wd0).put hs0
        have b1 : upd (upd H5 wd (.lst (((sv :: wt).map V.str).eraseIdx 0))) sd (.dK (putK (seenK sn4) (.inr sv) (.bl true))) td = some (.dK kvs) := by rw [upd_ne tds, upd_ne wdt.symm]; exact k1
        have b2 : upd (upd H5 wd (.lst (((sv :: wt).map V.str).eraseIdx 0))) sd (.dK (putK (seenK sn4) (.inr sv) (.bl true))) wd = some (.lst (wt.map V.str)) := by rw [upd_ne wds, upd_same]; rfl
        have b3 : upd (upd H5 wd (.lst (((sv :: wt).map V.str).eraseIdx 0))) sd (.dK (putK (seenK sn4) (.inr sv) (.bl true))) sd = some (.dK (seenK (if sv ∈ sn4 then sn4 else sn4 ++ [sv]))) := by rw [upd_same, seen_put]
        have b4 : upd (upd H5 wd (.lst (((sv :: wt).map V.str).eraseIdx 0))) sd (.dK (putK (seenK sn4) (.inr sv) (.bl true))) Fd = some (.lst ds) := by rw [upd_ne sdF, upd_ne wdF.symm]; exact k10
        refine ⟨sd, _, rfl, DPut.k (k := Sum.inr sv) sd6 (by rw [seen_len]; exact small1000 (Nat.le_trans snl (by decide))), ?_⟩
        generalize upd (upd H5 wd (.lst (((sv :: wt).map V.str).eraseIdx 0))) sd (.dK (putK (seenK sn4) (.inr sv) (.bl true))) = H6 at kt6 ss6 b1 b2 b3 b4
        have k2 := k2.tup kt6
        have k13 := k13.trans kt6
        obtain ⟨vb, eb, nbA, nbO, rfl, hnb⟩ := (ht2.tup k13).get nb1
        have nlen : (nbs t sv).length ≤ 40 := nbs_len nb ok (gv_some nb1)
        refine ⟨dt, _, rfl, eb, lc_list (fun R h => h) (l := nbs t sv) ⟨.inl (.inr ⟨nbO, hnb⟩), al_str.mpr rfl⟩ RAt stab_at (fun o => !decide (o ∈ tr.map (·.1))) id (small1000 (Nat.le_trans nlen (by decide))) (fun a y H7 R ha s7 hy kp dr => ?_) fun D ys H7 hD s7 hD' hp => ?_⟩
        · rw [at_str.mp hy]
          refine ⟨rfl, ?_⟩
          walk_at "nf"
          refine ⟨td, _, rfl, DGet.k (k := Sum.inr a) (s7 _ _ b1), _, rfl, ?_⟩
          rw [(tree_get k2).1]
          cases e : !decide (a ∈ tr.map (·.1)) with
          | true => exact iteT (kp _ _ (.refl _) e rfl)
          | false => exact iteF (dr _ (.refl _) e)
        · rw [List.map_id] at hp
          have hD2 := hD'
          rw [strs_of hp] at hD2
          have flen : ((nbs t sv).filter fun o => !decide (o ∈ tr.map (·.1))).length ≤ 40 := Nat.le_trans (List.length_filter_le _ _) nlen
          have k1 := s7 _ _ b1
          have k2 := k2.tup s7.tupS
          obtain ⟨na, nu, en, hna⟩ := (tree_get (x := sv) k2).2 l hl
          have hDt : D ≠ td := (ne_of_none b1 hD).symm
          refine ⟨.inr (.inr (.inl ⟨rfl, .inl ⟨_, k1⟩⟩)), dc_list false (fun R h => ⟨_, rfl, h⟩) (l := (nbs t sv).filter fun o => !decide (o ∈ tr.map (·.1))) ⟨.of hD2, al_str.mpr rfl⟩ RNode stab_node.dict (fun _ => true) id (fun _ => 1 - l) (small1000 (Nat.le_trans flen (by decide)))
            (by rw [filter_true, List.map_id]; exact (nbp.nodup_iff.mpr (ok.nbn sv hsn)).sublist List.filter_sublist) (fun a y H8 R ha s8 hy kp dr => ?_) fun D2 mvs H8 hD2n s8 hD2' hk8 hp8 _ => ?_⟩
          · rw [at_str.mp hy]
            refine ⟨rfl, ?_⟩
            walk_at "nf"
            exact ⟨td, _, rfl, .inl ⟨_, .inr sv, .inl (s8 _ _ k1), rfl, en.symm⟩, na, _, 0, .int l, rfl, rfl, .of (s8 _ _ hna), atI_nat (j := 0) rfl, _, _, rfl, rfl, by decide, fun p hp => kp _ _ (.new hp) rfl ⟨p, .str sv, rfl, upd_same⟩ (fun h => by cases h)⟩
          · rw [filter_true] at hk8 hp8
            have k1 := s8 _ _ k1
            have k2 := k2.tup s8.tupS
            have t2 : D2 ≠ td := (ne_of_none (s7 _ _ b1) hD2n).symm
            have mlen : mvs.length ≤ 40 := by
              have := congrArg List.length hk8
              rw [List.length_map, List.length_map] at this
              rw [this]; exact flen
            have klen : kvs.length ≤ 10 := by
              have := congrArg List.length k2.1
              rw [List.length_map, List.length_map] at this
              rw [this]; exact trl
            have hkeys : (kvs ++ mvs).map (·.1) = (tr ++ ((nbs t sv).filter fun o => !decide (o ∈ tr.map (·.1))).map fun o => (o, 1 - l)).map (fun p => (Sum.inr p.1 : Key)) := by
              rw [List.map_append, k2.1, hk8, List.map_append, List.map_map]; rfl
            have hmerge : mergeK kvs mvs = kvs ++ mvs := by
              refine merge_nd mvs kvs ?_
              rw [hkeys]
              have := gs.nd
              have e2 : ∀ z : List (Str × Int), z.map (fun p => (Sum.inr p.1 : Key)) = (z.map (·.1)).map fun a => (Sum.inr a : Key) := fun z => by rw [List.map_map]; rfl
              rw [e2]
              exact nodup_inr this
            have c2 : H8 wd = some (.lst (wt.map V.str)) := s8 _ _ (s7 _ _ b2)
            have wdt' : wd ≠ td := wdt
            have kt8 : TupS H8 (upd (upd H8 td (.dK (kvs ++ mvs))) wd (.lst (wt.map V.str ++ ((nbs t sv).filter fun o => !decide (o ∈ tr.map (·.1))).map V.str))) := (TupS.dK k1).trans (.lst (ys := wt.map V.str) (by rw [upd_ne wdt']; exact c2))
            rw [List.length_cons] at wtl
            refine ⟨td, D2, kvs, mvs, rfl, rfl, k1, hD2', t2.symm, Nat.le_of_lt (small1000 (by omega)), ?_⟩
            rw [hmerge]
            refine ⟨.inl ⟨rfl, _, .of (show upd H8 td _ wd = _ by rw [upd_ne wdt']; exact c2)⟩, wd, D, wt.map V.str, _, rfl, rfl, by rw [upd_ne wdt']; exact c2, by rw [upd_ne hDt]; exact s8 _ _ hD2, Nat.le_of_lt (small1000 (by rw [List.length_map, List.length_map]; omega)), ?_⟩
            refine ⟨_, ?_, _, _, rfl, tr ++ ((nbs t sv).filter fun o => !decide (o ∈ tr.map (·.1))).map (fun o => (o, 1 - l)), wt ++ ((nbs t sv).filter fun o => !decide (o ∈ tr.map (·.1))), kvs ++ mvs, (if sv ∈ sn4 then sn4 else sn4 ++ [sv]), ?_, ⟨hkeys, ?_⟩, ?_, gs, ?_, ?_, ?_, ?_, ?_, ?_, ?_, ?_, ?_, rfl⟩
            · have g := gs.len ok
              rw [List.length_append, List.length_map] at g
              rw [List.length_append, List.length_append, List.length_map, List.length_cons]
              omega
            · rw [upd_ne wdt'.symm, upd_same]
            · rw [List.map_append, List.map_append, List.map_map]
              refine pairedApp (Paired.mapP k2.2 fun b v q => stab_node _ _ b v kt8 q) (Paired.mapP hp8 fun b v q => stab_node _ _ b v kt8 q)
            · rw [upd_same, List.map_append]
            · rw [List.map_append]; exact List.mem_append_left _ k5
            · rw [upd_ne wds.symm, upd_ne tds.symm]; exact s8 _ _ (s7 _ _ b3)
            · intro s hs
              have hs' : s ∈ sn4 ∨ s = sv := by
                by_cases hh : sv ∈ sn4
                · rw [if_pos hh] at hs; exact .inl hs
                · rw [if_neg hh] at hs
                  rcases List.mem_append.mp hs with h | h
                  · exact .inl h
                  · exact .inr (List.mem_singleton.mp h)
              rcases hs' with h | h
              · rcases k7 s h with h | h
                · exact .inl h
                · exact .inr (by rw [List.map_append]; exact List.mem_append_left _ h)
              · rw [h]
                exact .inr (by rw [List.map_append]; exact List.mem_append_left _ (key_of_gv hl))
            · by_cases hh : sv ∈ sn4
              · rw [if_pos hh]; exact k8
              · rw [if_neg hh, List.nodup_append]
                exact ⟨k8, by simp, fun a ha b hb e => by rw [List.mem_singleton.mp hb] at e; rw [e] at ha; exact hh ha⟩
            · intro s hs
              by_cases hh : sv ∈ sn4
              · rw [if_pos hh] at hs; exact k9 s hs
              · rw [if_neg hh] at hs
                rcases List.mem_append.mp hs with h | h
                · exact k9 s h
                · rw [List.mem_singleton.mp h]; exact hsn
            · rw [upd_ne wdF.symm, upd_ne Fdt]; exact s8 _ _ (s7 _ _ b4)
            · exact Paired.mapP k11 fun b v q => stab_tree _ _ b v (((kt6.trans s7.tupS).trans s8.tupS).trans kt8) q
            · exact (((ss6.trans s7).trans s8).put td0).put wd0
            · exact ((k13.trans s7.tupS).trans s8.tupS).trans kt8
  · obtain ⟨u4, u5, u6, u7, u8, rfl, trs, ds, sn, g1, g2, g3, g4, g5, g6, g7, g8, g9, g10, g11⟩ := hp
    rw [List.take_length] at g8
    exact ⟨_, rfl, q Fd ds trs H' g10 hF0 g1 g2 g3 g8 (Nat.le_trans g9 ok.len)⟩
end
end G3
end

/-! ## G3Comp2 -/
section
set_option Elab.async false
set_option linter.all false
set_option maxRecDepth 100000
set_option maxHeartbeats 4000000
/-! Dict comprehensions with tuples as keys, and with two fors (turned from the layer's own for one for and ints, texts). -/
namespace G3
open PySem PySem.Spec PyProof.Rows L2
theorem d_dictPut {X : Cx} {pins : List (Addr × Obj)} {σ : L2.St} {H H' : Hp} {s : Shared} {E : Value → Shared → Prop} {D : Addr} {y v : V} {u r : Value} {Q : Unit → Shared → Prop} (hu : X.A.units + 1 < cLine) (I : Inv X pins σ H s) (g : DPut H D y v H')
    (ry : RelV y u) (rv : RelV v r) (h : ∀ s', Inv X pins σ H' s' → Q () s') : wpAny (model X.prog X.w) X.A (dictSet D u r) Q E s := by
  rcases g with ⟨kvs, k, e, ey, l, eH⟩ | ⟨kvs, k, b, e, ey, eb, l, eH⟩
  · subst ey eH
    exact d_dictSet I e l ry rv h
  · subst ey eH
    cases (show u = Value.ref b from ry)
    obtain ⟨z, hd, xs, rel, dd⟩ := dt_of I.hok e
    have hz : xs.length ≤ sizeLine := by rw [← Paired.length rel]; exact z
    have hl : (putK kvs k v).length ≤ sizeLine := by have := length_putK kvs k v; omega
    refine wpAny_dictSet_heap (hsz := hz) (knd := tupleKind (mixKind X.prog X.w)) (Nat.lt_of_succ_lt hu) (key_of I.hok eb) dd fun h' dd' hs => h _ ?_
    obtain ⟨q, es, ep, hq, h2, h3, h4, _, h5⟩ := dd'
    refine d_write I (by rw [e]; exact True.intro) hs ⟨q, hq⟩ ⟨hl, hd, _, (rel.put k eb rv).keeps fun c ys ec => ?_, q, es, ep, hq, h2, h3, h4, h5⟩
    rw [upd_ne (ne_of ec e (fun z => nomatch z))]
    exact ec
/-- a new dict that is to hold o -/
def NewD (P : Program) (w : World) (o : HO) : Prop := ∀ (H : Hp) (h : Heap), sysModules < h.objs.size → ObjOk P w H (h.push { cls := .type "dict", data := .dict #[] }) h.objs.size o
theorem newDK {P : Program} {w : World} : NewD P w (.dK []) := fun H h z => dk_empty h z
theorem newDT {P : Program} {w : World} : NewD P w (.dT []) := fun H h z => dt_empty h z
section
variable {X : Cx}

def tDcg (e0 : HO) (wi : TI) (g : TG) (tt : TT) (tk tv : TE) (vs : List Nat) : TE := fun σ H Q => wi σ H fun J H1 => ∀ D, H1 D = none → ∃ W : Nat → Nat → Hp → Prop, (∃ m, W 0 m (upd H1 D e0)) ∧ ∀ i m H, W i m H →
  (J.stop i H ∧ Q (.ref D) H) ∨ (J.go i H ∧ ∃ Nx : Hp → Prop, (∀ H', Nx H' → ∃ m', m' < m ∧ W (i + 1) m' H') ∧ ∀ x H', J.yld i H x H' → g x (wipe σ vs) H' fun σ2 H2 => wipe σ2 vs = wipe σ vs ∧ tt σ2 H2 fun b H3 =>
    if b = true then tk σ2 H3 fun y H4 => tv σ2 H4 fun z H5 => ∃ H6, DPut H5 D y z H6 ∧ Nx H6 else Nx H3)
theorem dcg_core {e0 : HO} {pins : List (Addr × Obj)} {s : Shared} {σ : L2.St} {H : Hp} {Q : VK} {kx vx tg iter : Expr} {ifs : List Expr} {scope : Scope} {own : List (Str × Nat)} {pos pos' : Pos} {wi : TI} {g : TG} {tt : TT} {tk tv : TE} {use : Option (Value → Sem Unit)} {Qf : Value → Shared → Prop}
    (n0 : NewD X.prog X.w e0) (hu : X.A.units + 1 < cLine) (hc : X.calm = true) (hN : X.N.Nodup) (I : Inv X pins σ H s) (hi : PI X tg iter wi) (ok : BlkOk X.N X.env.scope scope own)
    (hg : ∀ (s : Shared) (H : Hp) (C : Addr) (cl : List (Str × Addr)) (fp : List Addr), PG (X.blk s H scope (compEnvC scope cl C X.env) fp) tg g) (ht : ∀ (s : Shared) (H : Hp) (C : Addr) (cl : List (Str × Addr)) (fp : List Addr), PTs (X.blk s H scope (compEnvC scope cl C X.env) fp) ifs tt)
    (hk : ∀ (s : Shared) (H : Hp) (C : Addr) (cl : List (Str × Addr)) (fp : List Addr), PE (X.blk s H scope (compEnvC scope cl C X.env) fp) kx tk)
    (he : ∀ (s : Shared) (H : Hp) (C : Addr) (cl : List (Str × Addr)) (fp : List Addr), PE (X.blk s H scope (compEnvC scope cl C X.env) fp) vx tv) (hs : ∀ x, foldedSetIterable iter X.env x = pure x)
    (h : tDcg e0 wi g tt tk tv (own.map (·.2)) σ H Q)
    (hRR : ∀ D C s' m H', Inv X pins σ H' s' → Q (.ref D) H' → s'.heap.Ns C m → FpOk X pins H' C → compPost (model X.prog X.w) X.A X.xe use Qf (.ref D) C (.ok .next) s') :
    wpAny (model X.prog X.w) X.A (comprehension (.DictComp kx vx [⟨tg, iter, ifs, 0⟩] scope pos) scope X.env pos' newDict false (eval iter X.env) use) Qf X.xe s := by
  have hfree : ∀ y ∈ scope.names, y.2 = .free → ∃ c, X.env.cells.lookup y.1 = some c := fun y hy e => by
    rcases ok.free y hy e with k | k
    · exact I.ok.has _ (.inl k)
    · exact I.ok.has _ (.inr k)
  refine wpAny_comprehension_free (use := use) rfl hs (closure_ok hfree) ok.kind (fun y hy e => by rw [ok.uniq y hy, e])
    (thn (hi.run pins s σ H _ I h) fun xv s1 hx => thn hx fun itv s2 h2 => ?_)
  obtain ⟨it, fp, tn, J, H2, e, I2, T, st2, f2, q⟩ := h2
  subst e
  refine wpAny_newObj_type (newEnv_comp ?_)
  generalize hD : s2.heap.objs.size = D
  have hDn : H2 D = none := I2.hok.fresh (Nat.le_of_eq hD)
  obtain ⟨W, ⟨m0, w0⟩, turn⟩ := q D hDn
  -- the new list
  generalize hs3 : ({ s2 with heap := s2.heap.push { cls := .type "dict", data := .dict #[] } } : Shared) = s3
  have I3 : Inv X pins σ (upd H2 D e0) s3 := by
    rw [← hs3]
    refine I2.laid (t' := s2.toks) (fun b o e => Heap.get?_push_of_some _ e) (Nat.le_of_eq hD) ?_
    rw [← hD]
    exact n0 _ s2.heap I2.big
  have h3 : s3.heap = s2.heap.push { cls := .type "dict", data := .dict #[] } := by rw [← hs3]
  have sz : ∀ b ∈ fp, b < s2.heap.objs.size := fun b hb => by
    obtain ⟨o, e, _⟩ := T.obj _ _ st2 b hb
    exact Heap.lt_size e
  have f3 : ∀ b ∈ fp, FpOk X pins (upd H2 D e0) b ∧ b < s3.heap.objs.size := fun b hb => by
    have hlt := sz b hb
    refine ⟨⟨?_, (f2 b hb).2⟩, by rw [h3, Heap.size_push]; exact Nat.lt_succ_of_lt hlt⟩
    rw [upd_ne (by rw [← hD]; exact Nat.ne_of_lt hlt)]
    exact (f2 b hb).1
  have st3 : tn 0 s3.heap := T.keep _ _ _ st2 fun b _ o e => by rw [h3]; exact Heap.get?_push_of_some _ e
  have I4 := block_start I3 ok hN f3
  have pg := hg s3 (upd H2 D e0) s3.heap.objs.size (cellsFrom (s3.heap.objs.size + 1) scope.names (cloFrom X.env.cells scope.names [])) fp
  have pt := ht s3 (upd H2 D e0) s3.heap.objs.size (cellsFrom (s3.heap.objs.size + 1) scope.names (cloFrom X.env.cells scope.names [])) fp
  have pk := hk s3 (upd H2 D e0) s3.heap.objs.size (cellsFrom (s3.heap.objs.size + 1) scope.names (cloFrom X.env.cells scope.names [])) fp
  have pe := he s3 (upd H2 D e0) s3.heap.objs.size (cellsFrom (s3.heap.objs.size + 1) scope.names (cloFrom X.env.cells scope.names [])) fp
  show codeAny _ _ (.compStart (.DictComp kx vx [⟨tg, iter, ifs, 0⟩] scope pos) 0 (.ref it) (.ref D) (compEnvC scope (cellsFrom (s3.heap.objs.size + 1) scope.names (cloFrom X.env.cells scope.names [])) s3.heap.objs.size X.env)) (compPost (model X.prog X.w) X.A X.xe use Qf (.ref D) s3.heap.objs.size) { s3 with heap := pushCells (s3.heap.push { cls := .type "dict", data := .dict #[] }) scope.names }
  have nfp : ∀ b ∈ fp, (upd H2 D e0) b = none := fun b hb => (f3 b hb).1.1
  generalize hce : compEnvC scope (cellsFrom (s3.heap.objs.size + 1) scope.names (cloFrom X.env.cells scope.names [])) s3.heap.objs.size X.env = ce at I4 pg pt pk pe ⊢
  have cL : ce.locals = s3.heap.objs.size := by subst hce; rfl
  generalize hH3 : upd H2 D e0 = H3 at I3 I4 pg pt pk pe w0 nfp f3
  generalize hs4 : ({ s3 with heap := pushCells (s3.heap.push { cls := .type "dict", data := .dict #[] }) scope.names } : Shared) = s4 at I4 ⊢
  have st4 : tn 0 s4.heap := T.keep _ _ _ st3 fun b _ o e => by rw [← hs4]; exact pushCells_keeps _ _ _ _ (Heap.get?_push_of_some _ e)
  have stat : ∀ {σ' : L2.St} {H' : Hp} {s' : Shared}, Inv (X.blk s3 H3 scope ce fp) [] σ' H' s' → (∀ b ∈ fp, H' b = none) → ∀ b ∈ fp, FpOk (X.blk s3 H3 scope ce fp) [] H' b := fun {σ' H' s'} I' hn b hb =>
    ⟨hn b hb, (I'.ok.exf b hb).1, I'.ok.exfs b hb, .inl hb, fun x c e => (I'.ok.exf b hb).2 x c e, fun p hp => absurd (show p ∈ ([] : List (Addr × Obj)) ++ [] from hp) (by simp)⟩
  have loop : codeAny (model X.prog X.w) X.A (.compLoop (.DictComp kx vx [⟨tg, iter, ifs, 0⟩] scope pos) 0 (.ref it) (.ref D) ce) (compPost (model X.prog X.w) X.A X.xe use Qf (.ref D) s3.heap.objs.size) s4 := by
    refine compLoop_anyD (fun n s' => ∃ i H', Inv (X.blk s3 H3 scope ce fp) [] (wipe σ (own.map (·.2))) H' s' ∧ tn i s'.heap ∧ (∀ b ∈ fp, H' b = none) ∧ W i n H') ?_ m0 ⟨0, H3, I4, st4, nfp, w0⟩
    rintro n s5 ⟨i, H5, I5, st5, n5, w5⟩
    rcases turn i n H5 w5 with ⟨stop, qq⟩ | ⟨go, Nx, hNx, step⟩
    · have td := T.done (X.blk s3 H3 scope ce fp) rfl rfl rfl hc i [] s5 _ H5 (fun _ _ => False) I5 (stat I5 n5) st5 stop
      refine thnF td fun r s6 ⟨hr, I6⟩ => ?_
      subst hr
      -- back in the def's context
      have I7 : Inv X pins σ H5 s6 := I3.call' (ch := fp) I6.os I6.base I6.hok I6.bare fun b hb => ⟨(f3 b hb).1.2.2.2.1, (f3 b hb).1.2.1, (f3 b hb).1.2.2.2.2.1, (f3 b hb).1.2.2.2.2.2⟩
      have nC : H5 s3.heap.objs.size = none := by
        have z : H5 ce.locals = none := I6.free
        rw [cL] at z
        exact z
      obtain ⟨m, hn, _⟩ := I6.loc
      have hn : s6.heap.Ns ce.locals m := hn
      rw [cL] at hn
      exact hRR D s3.heap.objs.size s6 m H5 I7 qq hn (I3.fpOk (Nat.le_refl _) nC)
    · have ti := T.item (X.blk s3 H3 scope ce fp) rfl rfl rfl hc i [] s5 _ H5 (fun _ _ => False) I5 (stat I5 n5) st5 go
      refine thnF ti fun r s6 ⟨u, hr, h6⟩ => ?_
      subst hr
      refine thnF h6 fun _ s7 ⟨x, H7, I7, r7, y7, st7, n7⟩ => ?_
      have I7' := I7.pinned (stat I7 n7) (T.obj _ _ st7)
      refine thnF (pg.run _ s7 _ H7 x u _ I7' r7 (step x H7 y7)) fun _ s8 ⟨σ8, H8, I8, hw8, q8⟩ => ?_
      refine thnF (pt.run _ s8 σ8 H8 _ I8 q8) fun b s9 ⟨H9, I9, q9⟩ => ?_
      -- the turn's end
      have fin : ∀ {s' : Shared} {H' : Hp}, Inv (X.blk s3 H3 scope ce fp) ([] ++ pinsAt fp s7.heap) σ8 H' s' → Nx H' → ∃ m, m < n ∧ ∃ i H', Inv (X.blk s3 H3 scope ce fp) [] (wipe σ (own.map (·.2))) H' s' ∧ tn i s'.heap ∧ (∀ b ∈ fp, H' b = none) ∧ W i m H' := fun {s' H'} I' nx => by
        obtain ⟨m', hm, w'⟩ := hNx H' nx
        have pin' : ∀ b ∈ fp, ∀ o, s7.heap.get? b = some o → s'.heap.get? b = some o ∧ H' b = none := fun b hb o e =>
          let z := I'.pin (b, o) (List.mem_append_right _ (List.mem_append_right _ (mem_pinsAt hb e)))
          ⟨z.1, z.2.1⟩
        have hl : (wipe σ (own.map (·.2))).length = σ8.length := by rw [← hw8, wipe_length]
        refine ⟨m', hm, i + 1, H', (I'.unpinned (pins := [])).weak hl (fun j v e => ?_), T.keep _ _ _ st7 fun b hb o e => (pin' b hb o e).1, fun b hb => ?_, w'⟩
        · rw [← hw8] at e
          exact (wipe_some e).1
        · obtain ⟨o, e, _⟩ := T.obj _ _ st7 b hb
          exact (pin' b hb o e).2
      cases b with
      | false =>
        simp only [Bool.false_eq_true, if_false] at q9 ⊢
        exact fin I9 q9
      | true =>
        simp only [if_true] at q9 ⊢
        refine thnF (pk.run _ s9 σ8 H9 _ I9 q9) fun z s10 ⟨yk, H10, I10, r10, q10⟩ => ?_
        refine thnF (pe.run _ s10 σ8 H10 _ I10 q10) fun z2 s11 ⟨yv, H11, I11, r11, H12, hput, nx⟩ => ?_
        exact d_dictPut (X := X.blk s3 H3 scope ce fp) hu I11 hput r10 r11 fun s12 I12 => fin I12 nx
  exact codeAny_compStart_dict loop (T.self X.A 0 _ _ _ st4 loop)
/-- as a value -/
theorem pe_dcg (e0 : HO) {kx vx tg iter : Expr} {ifs : List Expr} {scope : Scope} {own : List (Str × Nat)} {pos : Pos} {wi : TI} {g : TG} {tt : TT} {tk tv : TE} (n0 : NewD X.prog X.w e0) (hu : X.A.units + 1 < cLine) (hc : X.calm = true) (hN : X.N.Nodup) (hi : PI X tg iter wi) (ok : BlkOk X.N X.env.scope scope own)
    (hg : ∀ (s : Shared) (H : Hp) (C : Addr) (cl : List (Str × Addr)) (fp : List Addr), PG (X.blk s H scope (compEnvC scope cl C X.env) fp) tg g) (ht : ∀ (s : Shared) (H : Hp) (C : Addr) (cl : List (Str × Addr)) (fp : List Addr), PTs (X.blk s H scope (compEnvC scope cl C X.env) fp) ifs tt)
    (hk : ∀ (s : Shared) (H : Hp) (C : Addr) (cl : List (Str × Addr)) (fp : List Addr), PE (X.blk s H scope (compEnvC scope cl C X.env) fp) kx tk)
    (he : ∀ (s : Shared) (H : Hp) (C : Addr) (cl : List (Str × Addr)) (fp : List Addr), PE (X.blk s H scope (compEnvC scope cl C X.env) fp) vx tv) (hs : ∀ x, foldedSetIterable iter X.env x = pure x := by intro _; rfl) :
    PE X (.DictComp kx vx [⟨tg, iter, ifs, 0⟩] scope pos) (tDcg e0 wi g tt tk tv (own.map (·.2))) := by
  refine ⟨fun pins s σ H Q I h => ?_⟩
  rw [arm_eval_DictComp]
  refine dcg_core n0 hu hc hN I hi ok hg ht hk he hs h fun D C s' m H' I' q hn f => ⟨m, hn, fun h'' sb => ?_⟩
  obtain ⟨f0, f1, f2, f3, f4, f5⟩ := f
  exact ⟨.ref D, H', I'.turned (t' := s'.toks) (fun b o hb e => (sb.2 b hb).trans e) f0 f1 f3 f4 f5, rfl, q⟩
theorem ps_setDcg (e0 : HO) {i : Nat} {y : Str} {py : Pos} {kx vx tg iter : Expr} {ifs : List Expr} {scope : Scope} {own : List (Str × Nat)} {pos spos : Pos} {wi : TI} {g : TG} {tt : TT} {tk tv : TE}
    (n0 : NewD X.prog X.w e0) (hu : X.A.units + 1 < cLine) (hc : X.calm = true) (hN : X.N.Nodup) (hy : X.N[i]? = some y) (hyl : X.env.scope.names.lookup y = some .local) (hsw : swapsWith (.DictComp kx vx [⟨tg, iter, ifs, 0⟩] scope pos) (some (.Name y py)) spos.line X.env = pure true)
    (hi : PI X tg iter wi) (ok : BlkOk X.N X.env.scope scope own)
    (hg : ∀ (s : Shared) (H : Hp) (C : Addr) (cl : List (Str × Addr)) (fp : List Addr), PG (X.blk s H scope (compEnvC scope cl C X.env) fp) tg g)
    (ht : ∀ (s : Shared) (H : Hp) (C : Addr) (cl : List (Str × Addr)) (fp : List Addr), PTs (X.blk s H scope (compEnvC scope cl C X.env) fp) ifs tt)
    (hk : ∀ (s : Shared) (H : Hp) (C : Addr) (cl : List (Str × Addr)) (fp : List Addr), PE (X.blk s H scope (compEnvC scope cl C X.env) fp) kx tk)
    (he : ∀ (s : Shared) (H : Hp) (C : Addr) (cl : List (Str × Addr)) (fp : List Addr), PE (X.blk s H scope (compEnvC scope cl C X.env) fp) vx tv)
    (hs : ∀ x, foldedSetIterable iter X.env x = pure x := by intro _; rfl) : PS X (.Assign [.Name y py] (.DictComp kx vx [⟨tg, iter, ifs, 0⟩] scope pos) spos) (tAsg (tDcg e0 wi g tt tk tv (own.map (·.2))) (gName i)) := by
  refine ⟨fun pins s σ H D I h => ?_⟩
  rw [exec_Assign_Name_used _ _ _ _ hsw]
  refine wpAny_bind (wpAny_standAt (wpAny_bind ?_))
  show wpAny _ X.A (do let _ ← comprehension (.DictComp kx vx [⟨tg, iter, ifs, 0⟩] scope pos) scope X.env (firstIterPos [⟨tg, iter, ifs, 0⟩] pos) newDict false (eval iter X.env) (some (assign (.Name y py) X.env))) _ _ s
  have h' : tDcg e0 wi g tt tk tv (own.map (·.2)) σ H (fun x H1 => gName i x σ H1 D.nx) := h
  refine wpAny_bind (thn (dcg_core (Qf := fun _ s' => SP X pins D .next s') n0 hu hc hN I hi ok hg ht hk he hs h' fun L C s' m H' I' q hn f => ?_) fun _ s' hq => wpAny_pure (wpAny_pure hq))
  show wpAny _ _ (assign (.Name y py) X.env (.ref L)) _ _ _
  refine wpAny_assign_Name (store_ok2 (v := V.ref L) I' hN hy (.inl hyl) rfl (fun s2 I2 ⟨a, sb, ha⟩ => ?_) (.inr hyl))
  obtain ⟨f0, f1, f2, f3, f4, f5⟩ := f
  have haC : C ≠ a := by
    rcases ha with z | z
    · rw [z]; exact f1
    · exact fun e => f4 y a z e.symm
  exact ⟨m, hn.sameBut sb haC, fun h3 sb3 => ⟨_, H', I2.turned (t' := s2.toks) (fun b o hb e => (sb3.2 b hb).trans e) f0 f1 f3 f4 f5, q⟩⟩

end
theorem compTurnD_out (kx vx t0 i0 t1 i1 : Expr) (ifs0 ifs1 : List Expr) (scope : Scope) (pos : Pos) (it : Value) (D : Addr) (env : Env) :
    compTurn (.DictComp kx vx [⟨t0, i0, ifs0, 0⟩, ⟨t1, i1, ifs1, 0⟩] scope pos) 0 it (.ref D) env = (do
      standAt i0.pos
      match ← pyNext it with
      | none => pure (.done .next)
      | some v =>
        letOwnedTupleGo t0 it v
        assign t0 env v
        let mut ok := true
        for c in ifs0 do
          if ok then ok ← isTrue c env (eval c env)
        if ok then
          let x ← eval i1 env
          standAt i1.pos
          let x ← foldedSetIterable i1 env x
          let _ ← runOwn (.compStart (.DictComp kx vx [⟨t0, i0, ifs0, 0⟩, ⟨t1, i1, ifs1, 0⟩] scope pos) 1 (← holding [x] (pyIter x)) (.ref D) env) env
        again (.compLoop (.DictComp kx vx [⟨t0, i0, ifs0, 0⟩, ⟨t1, i1, ifs1, 0⟩] scope pos) 0 it (.ref D) env)) := by rfl
theorem compTurnD_in (kx vx t0 i0 t1 i1 : Expr) (ifs0 ifs1 : List Expr) (scope : Scope) (pos : Pos) (it : Value) (D : Addr) (env : Env) :
    compTurn (.DictComp kx vx [⟨t0, i0, ifs0, 0⟩, ⟨t1, i1, ifs1, 0⟩] scope pos) 1 it (.ref D) env = (do
      standAt i1.pos
      match ← pyNext it with
      | none => pure (.done .next)
      | some v =>
        letOwnedTupleGo t1 it v
        assign t1 env v
        let mut ok := true
        for c in ifs1 do
          if ok then ok ← isTrue c env (eval c env)
        if ok then
          (do
            let kv ← eval kx env
            let vv ← holding [kv] (eval vx env)
            standAt { kx.pos with endLine := vx.pos.endLine, endCol := vx.pos.endCol }
            holding [kv, vv] (dictSet D kv vv))
        again (.compLoop (.DictComp kx vx [⟨t0, i0, ifs0, 0⟩, ⟨t1, i1, ifs1, 0⟩] scope pos) 1 it (.ref D) env)) := by rfl

section
variable {prog : Program} {w : World} {A : Around} {R : Result → Shared → Prop} {s : Shared} {kx vx t0 i0 t1 i1 : Expr} {ifs0 ifs1 : List Expr} {scope : Scope} {pos : Pos} {it : Value} {D : Addr} {env : Env}
/-- the loop of the first clause -/
theorem compLoopD_out (hs : ∀ x, foldedSetIterable i1 env x = pure x) (I : Nat → Shared → Prop)
    (turn : ∀ n s, I n s → wpAny (model prog w) A (pyNext it) (fun r s₁ => match r with
      | none => R (.ok .next) s₁
      | some v => wpAny (model prog w) A (letOwnedTupleGo t0 it v) (fun _ s₁' => wpAny (model prog w) A (assign t0 env v) (fun _ s₂ =>
          wpAny (model prog w) A (forIn ifs0 true fun c r => if r = true then do let ok ← isTrue c env (eval c env); pure (ForInStep.yield ok) else pure (ForInStep.yield r)) (fun ok s₃ =>
            if ok = true then wpAny (model prog w) A (eval i1 env) (fun x s₄ => wpAny (model prog w) A (pyIter x) (fun it1 s₅ =>
              codeAny (model prog w) A (.compStart (.DictComp kx vx [⟨t0, i0, ifs0, 0⟩, ⟨t1, i1, ifs1, 0⟩] scope pos) 1 it1 (.ref D) env) (fun r s' => match r with
                | .ok _ => ∃ m, m < n ∧ I m s'
                | .error _ => False) s₅) (notedBy (model prog w) A env fun e s' => R (.error e) s') s₄) (notedBy (model prog w) A env fun e s' => R (.error e) s') s₃
            else ∃ m, m < n ∧ I m s₃) (notedBy (model prog w) A env fun e s' => R (.error e) s') s₂) (notedBy (model prog w) A env fun e s' => R (.error e) s') s₁') (notedBy (model prog w) A env fun e s' => R (.error e) s') s₁) (notedBy (model prog w) A env fun e s' => R (.error e) s') s)
    (n : Nat) (h : I n s) :
    codeAny (model prog w) A (.compLoop (.DictComp kx vx [⟨t0, i0, ifs0, 0⟩, ⟨t1, i1, ifs1, 0⟩] scope pos) 0 it (.ref D) env) R s := by
  refine codeAny_loop rfl I (fun n s hI => ?_) n h
  show wpAny _ A ((compTurn (.DictComp kx vx [⟨t0, i0, ifs0, 0⟩, ⟨t1, i1, ifs1, 0⟩] scope pos) 0 it (.ref D) env).onRaise (fun x => do noteFrame x env; theTreesLotGoes x)) _ _ s
  refine wpAny_noted ?_
  rw [compTurnD_out]
  refine wpAny_bind (wpAny_standAt (wpAny_bind (wpAny_mono (turn n s hI) (fun r s₁ h₁ => ?_) fun _ _ h' => h')))
  cases r with
  | none => exact wpAny_pure h₁
  | some v =>
    refine wpAny_bind (wpAny_mono h₁ (fun _ s₁' h₁' => ?_) fun _ _ h' => h')
    refine wpAny_bind (wpAny_mono h₁' (fun _ s₂ h₂ => wpAny_bind (wpAny_mono h₂ (fun ok s₃ h₃ => ?_) fun _ _ h' => h')) fun _ _ h' => h')
    cases ok with
    | false => exact wpAny_pure ⟨rfl, h₃⟩
    | true =>
      refine wpAny_bind (wpAny_mono h₃ (fun x s₄ h₄ => ?_) fun _ _ h' => h')
      refine wpAny_bind (wpAny_standAt (wpAny_bind (wpAny_of_eq (hs x) (wpAny_bind (wpAny_holding (wpAny_mono h₄ (fun it1 s₅ h₅ => ?_) fun _ _ h' => h'))))))
      refine wpAny_bind (wpAny_runOwn ?_)
      rw [Around.mark_none]
      refine codeAny_mono h₅ fun r s' hr => ?_
      cases r with
      | ok f =>
        first
          | exact wpAny_pure ⟨rfl, hr⟩
          | exact wpAny_bind (wpAny_pure (wpAny_pure ⟨rfl, hr⟩))
      | error e => exact hr.elim
/-- the loop of the second -/
theorem compLoopD_in (I : Nat → Shared → Prop)
    (turn : ∀ n s, I n s → wpAny (model prog w) A (pyNext it) (fun r s₁ => match r with
      | none => R (.ok .next) s₁
      | some v => wpAny (model prog w) A (letOwnedTupleGo t1 it v) (fun _ s₁' => wpAny (model prog w) A (assign t1 env v) (fun _ s₂ =>
          wpAny (model prog w) A (forIn ifs1 true fun c r => if r = true then do let ok ← isTrue c env (eval c env); pure (ForInStep.yield ok) else pure (ForInStep.yield r)) (fun ok s₃ =>
            if ok = true then wpAny (model prog w) A (eval kx env) (fun kv s₄ => wpAny (model prog w) A (eval vx env) (fun vv s₅ =>
              wpAny (model prog w) A (dictSet D kv vv) (fun _ s₆ => ∃ m, m < n ∧ I m s₆) (notedBy (model prog w) A env fun e s' => R (.error e) s') s₅) (notedBy (model prog w) A env fun e s' => R (.error e) s') s₄) (notedBy (model prog w) A env fun e s' => R (.error e) s') s₃
            else ∃ m, m < n ∧ I m s₃) (notedBy (model prog w) A env fun e s' => R (.error e) s') s₂) (notedBy (model prog w) A env fun e s' => R (.error e) s') s₁') (notedBy (model prog w) A env fun e s' => R (.error e) s') s₁) (notedBy (model prog w) A env fun e s' => R (.error e) s') s)
    (n : Nat) (h : I n s) :
    codeAny (model prog w) A (.compLoop (.DictComp kx vx [⟨t0, i0, ifs0, 0⟩, ⟨t1, i1, ifs1, 0⟩] scope pos) 1 it (.ref D) env) R s := by
  refine codeAny_loop rfl I (fun n s hI => ?_) n h
  show wpAny _ A ((compTurn (.DictComp kx vx [⟨t0, i0, ifs0, 0⟩, ⟨t1, i1, ifs1, 0⟩] scope pos) 1 it (.ref D) env).onRaise (fun x => do noteFrame x env; theTreesLotGoes x)) _ _ s
  refine wpAny_noted ?_
  rw [compTurnD_in]
  refine wpAny_bind (wpAny_standAt (wpAny_bind (wpAny_mono (turn n s hI) (fun r s₁ h₁ => ?_) fun _ _ h' => h')))
  cases r with
  | none => exact wpAny_pure h₁
  | some v =>
    refine wpAny_bind (wpAny_mono h₁ (fun _ s₁' h₁' => ?_) fun _ _ h' => h')
    refine wpAny_bind (wpAny_mono h₁' (fun _ s₂ h₂ => wpAny_bind (wpAny_mono h₂ (fun ok s₃ h₃ => ?_) fun _ _ h' => h')) fun _ _ h' => h')
    cases ok with
    | false => exact wpAny_pure ⟨rfl, h₃⟩
    | true =>
      exact wpAny_bind (wpAny_bind (wpAny_mono h₃ (fun kv s₄ h₄ => wpAny_bind (wpAny_holding (wpAny_mono h₄ (fun vv s₅ h₅ => wpAny_bind (wpAny_standAt (wpAny_holding (wpAny_mono h₅ (fun _ s₆ h₆ => wpAny_pure ⟨rfl, h₆⟩) fun _ _ h' => h')))) fun _ _ h' => h'))) fun _ _ h' => h'))
/-- the second clause's start -/
theorem compStartD_ok (h0 : codeAny (model prog w) A (.compLoop (.DictComp kx vx [⟨t0, i0, ifs0, 0⟩, ⟨t1, i1, ifs1, 0⟩] scope pos) 1 it (.ref D) env) R s)
    (h : wpAny (model prog w) A (pyIter it) (fun it' s' => codeAny (model prog w) A (.compLoop (.DictComp kx vx [⟨t0, i0, ifs0, 0⟩, ⟨t1, i1, ifs1, 0⟩] scope pos) 1 it' (.ref D) env) R s')
      (notedBy (model prog w) A env fun x s' => R (.error x) s') s) :
    codeAny (model prog w) A (.compStart (.DictComp kx vx [⟨t0, i0, ifs0, 0⟩, ⟨t1, i1, ifs1, 0⟩] scope pos) 1 it (.ref D) env) R s := by
  refine codeAny_of_tree ?_
  show wpAny _ _ ((compStart (.DictComp kx vx [⟨t0, i0, ifs0, 0⟩, ⟨t1, i1, ifs1, 0⟩] scope pos) 1 it (.ref D) env).onRaise (fun x => do noteFrame x env; standAt theWindowsPlace)) _ _ s
  refine wpAny_notedAt ?_
  unfold compStart
  show wpAny _ _ (ask >>= _) _ _ s
  refine wpAny_bind (wpAny_askSetting (wpAny_ite ?_))
  split
  · first
      | exact wpAny_bind (wpAny_pure (wpAny_pure (And.intro rfl h0)))
      | exact wpAny_pure (And.intro rfl h0)
  · first
      | exact wpAny_bind (wpAny_rule (wpAny_bind (wpAny_standAt (wpAny_bind (wpAny_mono h (fun it' s' h' => wpAny_pure (And.intro rfl h')) fun _ _ x => x)))))
      | (refine wpAny_bind (wpAny_rule ?_); show wpAny _ _ (standAt i1.pos >>= _) _ _ s; exact wpAny_bind (wpAny_standAt (wpAny_bind (wpAny_mono h (fun it' s' h' => wpAny_pure (And.intro rfl h')) fun _ _ x => x))))
end


section
variable {X : Cx}
/-- {k: v for tg in iter if .. for tg1 in iter1 if ..} -/
def tDc2 (wi : TI) (g : TG) (tt : TT) (wi1 : TI) (g1 : TG) (tt1 : TT) (tk tv : TE) (vs vs1 : List Nat) : TE := fun σ H Q => wi σ H fun J H1 => ∀ D, H1 D = none → ∃ W : Nat → Nat → Hp → Prop, (∃ m, W 0 m (upd H1 D (.dK []))) ∧ ∀ i m H, W i m H →
  (J.stop i H ∧ Q (.ref D) H) ∨ (J.go i H ∧ ∃ Nx : Hp → Prop, (∀ H', Nx H' → ∃ m', m' < m ∧ W (i + 1) m' H') ∧ ∀ x H', J.yld i H x H' → g x (wipe σ vs) H' fun σ2 H2 => wipe σ2 vs = wipe σ vs ∧ tt σ2 H2 fun b H3 =>
    if b = true then wi1 σ2 H3 fun J1 H4 => ∃ W1 : Nat → Nat → Hp → Prop, (∃ m, W1 0 m H4) ∧ ∀ j k H, W1 j k H →
      (J1.stop j H ∧ Nx H) ∨ (J1.go j H ∧ ∃ Nx1 : Hp → Prop, (∀ H', Nx1 H' → ∃ k', k' < k ∧ W1 (j + 1) k' H') ∧ ∀ x H', J1.yld j H x H' → g1 x (wipe σ2 vs1) H' fun σ3 H5 => wipe σ3 vs1 = wipe σ2 vs1 ∧ tt1 σ3 H5 fun b H6 =>
        if b = true then tk σ3 H6 fun y H7 => tv σ3 H7 fun z H8 => ∃ H9, DPut H8 D y z H9 ∧ Nx1 H9 else Nx1 H6)
    else Nx H3)
theorem dc2_core {pins : List (Addr × Obj)} {s : Shared} {σ : L2.St} {H : Hp} {Q : VK} {kx vx tg iter tg1 iter1 : Expr} {ifs ifs1 : List Expr} {scope : Scope} {own : List (Str × Nat)} {vs1 : List Nat} {pos pos' : Pos} {wi wi1 : TI} {g g1 : TG} {tt tt1 : TT} {tk tv : TE} {use : Option (Value → Sem Unit)} {Qf : Value → Shared → Prop}
    (hu : X.A.units + 1 < cLine) (hc : X.calm = true) (hN : X.N.Nodup) (I : Inv X pins σ H s) (hi : PI X tg iter wi) (ok : BlkOk X.N X.env.scope scope own) (hv : ∀ i ∈ vs1, i ∈ own.map (·.2))
    (hg : ∀ (s : Shared) (H : Hp) (C : Addr) (cl : List (Str × Addr)) (fp : List Addr), PG (X.blk s H scope (compEnvC scope cl C X.env) fp) tg g) (ht : ∀ (s : Shared) (H : Hp) (C : Addr) (cl : List (Str × Addr)) (fp : List Addr), PTs (X.blk s H scope (compEnvC scope cl C X.env) fp) ifs tt)
    (hk : ∀ (s : Shared) (H : Hp) (C : Addr) (cl : List (Str × Addr)) (fp : List Addr), PE (X.blk s H scope (compEnvC scope cl C X.env) fp) kx tk)
    (he : ∀ (s : Shared) (H : Hp) (C : Addr) (cl : List (Str × Addr)) (fp : List Addr), PE (X.blk s H scope (compEnvC scope cl C X.env) fp) vx tv) (hs : ∀ x, foldedSetIterable iter X.env x = pure x)
    (hi1 : ∀ (s : Shared) (H : Hp) (C : Addr) (cl : List (Str × Addr)) (fp : List Addr), PI (X.blk s H scope (compEnvC scope cl C X.env) fp) tg1 iter1 wi1)
    (hg1 : ∀ (s : Shared) (H : Hp) (C : Addr) (cl : List (Str × Addr)) (fp : List Addr), PG (X.blk s H scope (compEnvC scope cl C X.env) fp) tg1 g1)
    (ht1 : ∀ (s : Shared) (H : Hp) (C : Addr) (cl : List (Str × Addr)) (fp : List Addr), PTs (X.blk s H scope (compEnvC scope cl C X.env) fp) ifs1 tt1)
    (hs1 : ∀ env x, foldedSetIterable iter1 env x = pure x)
    (h : tDc2 wi g tt wi1 g1 tt1 tk tv (own.map (·.2)) vs1 σ H Q)
    (hRR : ∀ D C s' m H', Inv X pins σ H' s' → Q (.ref D) H' → s'.heap.Ns C m → FpOk X pins H' C → compPost (model X.prog X.w) X.A X.xe use Qf (.ref D) C (.ok .next) s') :
    wpAny (model X.prog X.w) X.A (comprehension (.DictComp kx vx [⟨tg, iter, ifs, 0⟩, ⟨tg1, iter1, ifs1, 0⟩] scope pos) scope X.env pos' newDict false (eval iter X.env) use) Qf X.xe s := by
  have hfree : ∀ y ∈ scope.names, y.2 = .free → ∃ c, X.env.cells.lookup y.1 = some c := fun y hy e => by
    rcases ok.free y hy e with k | k
    · exact I.ok.has _ (.inl k)
    · exact I.ok.has _ (.inr k)
  refine wpAny_comprehension_free (use := use) rfl hs (closure_ok hfree) ok.kind (fun y hy e => by rw [ok.uniq y hy, e])
    (thn (hi.run pins s σ H _ I h) fun xv s1 hx => thn hx fun itv s2 h2 => ?_)
  obtain ⟨it, fp, tn, J, H2, e, I2, T, st2, f2, q⟩ := h2
  subst e
  refine wpAny_newObj_type (newEnv_comp ?_)
  generalize hD : s2.heap.objs.size = D
  have hDn : H2 D = none := I2.hok.fresh (Nat.le_of_eq hD)
  obtain ⟨W, ⟨m0, w0⟩, turn⟩ := q D hDn
  -- the new list
  generalize hs3 : ({ s2 with heap := s2.heap.push { cls := .type "dict", data := .dict #[] } } : Shared) = s3
  have I3 : Inv X pins σ (upd H2 D (.dK [])) s3 := by
    rw [← hs3]
    refine I2.laid (t' := s2.toks) (fun b o e => Heap.get?_push_of_some _ e) (Nat.le_of_eq hD) ?_
    rw [← hD]
    exact dk_empty s2.heap I2.big
  have h3 : s3.heap = s2.heap.push { cls := .type "dict", data := .dict #[] } := by rw [← hs3]
  have sz : ∀ b ∈ fp, b < s2.heap.objs.size := fun b hb => by
    obtain ⟨o, e, _⟩ := T.obj _ _ st2 b hb
    exact Heap.lt_size e
  have f3 : ∀ b ∈ fp, FpOk X pins (upd H2 D (.dK [])) b ∧ b < s3.heap.objs.size := fun b hb => by
    have hlt := sz b hb
    refine ⟨⟨?_, (f2 b hb).2⟩, by rw [h3, Heap.size_push]; exact Nat.lt_succ_of_lt hlt⟩
    rw [upd_ne (by rw [← hD]; exact Nat.ne_of_lt hlt)]
    exact (f2 b hb).1
  have st3 : tn 0 s3.heap := T.keep _ _ _ st2 fun b _ o e => by rw [h3]; exact Heap.get?_push_of_some _ e
  have I4 := block_start I3 ok hN f3
  have pg := hg s3 (upd H2 D (.dK [])) s3.heap.objs.size (cellsFrom (s3.heap.objs.size + 1) scope.names (cloFrom X.env.cells scope.names [])) fp
  have pt := ht s3 (upd H2 D (.dK [])) s3.heap.objs.size (cellsFrom (s3.heap.objs.size + 1) scope.names (cloFrom X.env.cells scope.names [])) fp
  have pk := hk s3 (upd H2 D (.dK [])) s3.heap.objs.size (cellsFrom (s3.heap.objs.size + 1) scope.names (cloFrom X.env.cells scope.names [])) fp
  have pe := he s3 (upd H2 D (.dK [])) s3.heap.objs.size (cellsFrom (s3.heap.objs.size + 1) scope.names (cloFrom X.env.cells scope.names [])) fp
  have pi1 := hi1 s3 (upd H2 D (.dK [])) s3.heap.objs.size (cellsFrom (s3.heap.objs.size + 1) scope.names (cloFrom X.env.cells scope.names [])) fp
  have pg1 := hg1 s3 (upd H2 D (.dK [])) s3.heap.objs.size (cellsFrom (s3.heap.objs.size + 1) scope.names (cloFrom X.env.cells scope.names [])) fp
  have pt1 := ht1 s3 (upd H2 D (.dK [])) s3.heap.objs.size (cellsFrom (s3.heap.objs.size + 1) scope.names (cloFrom X.env.cells scope.names [])) fp
  show codeAny _ _ (.compStart (.DictComp kx vx [⟨tg, iter, ifs, 0⟩, ⟨tg1, iter1, ifs1, 0⟩] scope pos) 0 (.ref it) (.ref D) (compEnvC scope (cellsFrom (s3.heap.objs.size + 1) scope.names (cloFrom X.env.cells scope.names [])) s3.heap.objs.size X.env)) (compPost (model X.prog X.w) X.A X.xe use Qf (.ref D) s3.heap.objs.size) { s3 with heap := pushCells (s3.heap.push { cls := .type "dict", data := .dict #[] }) scope.names }
  have nfp : ∀ b ∈ fp, (upd H2 D (.dK [])) b = none := fun b hb => (f3 b hb).1.1
  generalize hce : compEnvC scope (cellsFrom (s3.heap.objs.size + 1) scope.names (cloFrom X.env.cells scope.names [])) s3.heap.objs.size X.env = ce at I4 pg pt pk pe pi1 pg1 pt1 ⊢
  have cL : ce.locals = s3.heap.objs.size := by subst hce; rfl
  generalize hH3 : upd H2 D (.dK []) = H3 at I3 I4 pg pt pk pe pi1 pg1 pt1 w0 nfp f3
  generalize hs4 : ({ s3 with heap := pushCells (s3.heap.push { cls := .type "dict", data := .dict #[] }) scope.names } : Shared) = s4 at I4 ⊢
  have st4 : tn 0 s4.heap := T.keep _ _ _ st3 fun b _ o e => by rw [← hs4]; exact pushCells_keeps _ _ _ _ (Heap.get?_push_of_some _ e)
  have stat : ∀ {σ' : L2.St} {H' : Hp} {s' : Shared}, Inv (X.blk s3 H3 scope ce fp) [] σ' H' s' → (∀ b ∈ fp, H' b = none) → ∀ b ∈ fp, FpOk (X.blk s3 H3 scope ce fp) [] H' b := fun {σ' H' s'} I' hn b hb =>
    ⟨hn b hb, (I'.ok.exf b hb).1, I'.ok.exfs b hb, .inl hb, fun x c e => (I'.ok.exf b hb).2 x c e, fun p hp => absurd (show p ∈ ([] : List (Addr × Obj)) ++ [] from hp) (by simp)⟩
  have loop : codeAny (model X.prog X.w) X.A (.compLoop (.DictComp kx vx [⟨tg, iter, ifs, 0⟩, ⟨tg1, iter1, ifs1, 0⟩] scope pos) 0 (.ref it) (.ref D) ce) (compPost (model X.prog X.w) X.A X.xe use Qf (.ref D) s3.heap.objs.size) s4 := by
    refine compLoopD_out (hs1 ce) (fun n s' => ∃ i H', Inv (X.blk s3 H3 scope ce fp) [] (wipe σ (own.map (·.2))) H' s' ∧ tn i s'.heap ∧ (∀ b ∈ fp, H' b = none) ∧ W i n H') ?_ m0 ⟨0, H3, I4, st4, nfp, w0⟩
    rintro n s5 ⟨i, H5, I5, st5, n5, w5⟩
    rcases turn i n H5 w5 with ⟨stop, qq⟩ | ⟨go, Nx, hNx, step⟩
    · have td := T.done (X.blk s3 H3 scope ce fp) rfl rfl rfl hc i [] s5 _ H5 (fun _ _ => False) I5 (stat I5 n5) st5 stop
      refine thnF td fun r s6 ⟨hr, I6⟩ => ?_
      subst hr
      -- back in the def's context
      have I7 : Inv X pins σ H5 s6 := I3.call' (ch := fp) I6.os I6.base I6.hok I6.bare fun b hb => ⟨(f3 b hb).1.2.2.2.1, (f3 b hb).1.2.1, (f3 b hb).1.2.2.2.2.1, (f3 b hb).1.2.2.2.2.2⟩
      have nC : H5 s3.heap.objs.size = none := by
        have z : H5 ce.locals = none := I6.free
        rw [cL] at z
        exact z
      obtain ⟨m, hn, _⟩ := I6.loc
      have hn : s6.heap.Ns ce.locals m := hn
      rw [cL] at hn
      exact hRR D s3.heap.objs.size s6 m H5 I7 qq hn (I3.fpOk (Nat.le_refl _) nC)
    · have ti := T.item (X.blk s3 H3 scope ce fp) rfl rfl rfl hc i [] s5 _ H5 (fun _ _ => False) I5 (stat I5 n5) st5 go
      refine thnF ti fun r s6 ⟨u, hr, h6⟩ => ?_
      subst hr
      refine thnF h6 fun _ s7 ⟨x, H7, I7, r7, y7, st7, n7⟩ => ?_
      have I7' := I7.pinned (stat I7 n7) (T.obj _ _ st7)
      refine thnF (pg.run _ s7 _ H7 x u _ I7' r7 (step x H7 y7)) fun _ s8 ⟨σ8, H8, I8, hw8, q8⟩ => ?_
      refine thnF (pt.run _ s8 σ8 H8 _ I8 q8) fun b s9 ⟨H9, I9, q9⟩ => ?_
      -- the turn's end, from any slots that know what the block knew at its start
      have fin : ∀ {σ9 : L2.St} {s' : Shared} {H' : Hp}, Inv (X.blk s3 H3 scope ce fp) ([] ++ pinsAt fp s7.heap) σ9 H' s' → (wipe σ (own.map (·.2))).length = σ9.length → (∀ (j : Nat) v, (wipe σ (own.map (·.2)))[j]? = some (some v) → σ9[j]? = some (some v)) → Nx H' →
          ∃ m, m < n ∧ ∃ i H', Inv (X.blk s3 H3 scope ce fp) [] (wipe σ (own.map (·.2))) H' s' ∧ tn i s'.heap ∧ (∀ b ∈ fp, H' b = none) ∧ W i m H' := fun {σ9 s' H'} I' hl hk nx => by
        obtain ⟨m', hm, w'⟩ := hNx H' nx
        have pin' : ∀ b ∈ fp, ∀ o, s7.heap.get? b = some o → s'.heap.get? b = some o ∧ H' b = none := fun b hb o e =>
          let z := I'.pin (b, o) (List.mem_append_right _ (List.mem_append_right _ (mem_pinsAt hb e)))
          ⟨z.1, z.2.1⟩
        refine ⟨m', hm, i + 1, H', (I'.unpinned (pins := [])).weak hl hk, T.keep _ _ _ st7 fun b hb o e => (pin' b hb o e).1, fun b hb => ?_, w'⟩
        obtain ⟨o, e, _⟩ := T.obj _ _ st7 b hb
        exact (pin' b hb o e).2
      have hl8 : (wipe σ (own.map (·.2))).length = σ8.length := by rw [← hw8, wipe_length]
      have hk8 : ∀ (j : Nat) v, (wipe σ (own.map (·.2)))[j]? = some (some v) → σ8[j]? = some (some v) := fun j v e => by
        rw [← hw8] at e
        exact (wipe_some e).1
      have hk9 : ∀ (j : Nat) v, (wipe σ (own.map (·.2)))[j]? = some (some v) → (wipe σ8 vs1)[j]? = some (some v) := fun j v e => by
        rw [← hw8] at e
        obtain ⟨e1, e2⟩ := wipe_some e
        rw [wipe_out fun z => e2 (hv j z)]
        exact e1
      cases b with
      | false =>
        simp only [Bool.false_eq_true, if_false] at q9 ⊢
        exact fin I9 hl8 hk8 q9
      | true =>
        simp only [if_true] at q9 ⊢
        refine thnF (pi1.run _ s9 σ8 H9 _ I9 q9) fun xv s10 hx => thnF hx fun itv s11 h11 => ?_
        obtain ⟨it1, fp1, tn1, J1, H11, e1, I11, T1, st11, f11, W1, ⟨m1, w1⟩, turn1⟩ := h11
        subst e1
        -- the inner loop
        have stat1 : ∀ {H' : Hp}, (∀ b ∈ fp1, H' b = none) → ∀ b ∈ fp1, FpOk (X.blk s3 H3 scope ce fp) ([] ++ pinsAt fp s7.heap) H' b := fun hn b hb => ⟨hn b hb, (f11 b hb).2⟩
        have loop1 : codeAny (model X.prog X.w) X.A (.compLoop (.DictComp kx vx [⟨tg, iter, ifs, 0⟩, ⟨tg1, iter1, ifs1, 0⟩] scope pos) 1 (.ref it1) (.ref D) ce)
            (fun r s' => match r with
              | .ok _ => ∃ m, m < n ∧ ∃ i H', Inv (X.blk s3 H3 scope ce fp) [] (wipe σ (own.map (·.2))) H' s' ∧ tn i s'.heap ∧ (∀ b ∈ fp, H' b = none) ∧ W i m H'
              | .error _ => False) s11 := by
          refine compLoopD_in (fun k s' => ∃ j H', Inv (X.blk s3 H3 scope ce fp) ([] ++ pinsAt fp s7.heap) (wipe σ8 vs1) H' s' ∧ tn1 j s'.heap ∧ (∀ b ∈ fp1, H' b = none) ∧ W1 j k H') ?_ m1 ⟨0, H11, I11.weak (wipe_length _ _) (fun j v e => (wipe_some e).1), st11, fun b hb => (f11 b hb).1, w1⟩
          rintro k s12 ⟨j, H12, I12, st12, n12, w12⟩
          rcases turn1 j k H12 w12 with ⟨stop1, nx1⟩ | ⟨go1, Nx1, hNx1, step1⟩
          · refine thnF (T1.done (X.blk s3 H3 scope ce fp) rfl rfl rfl hc j _ s12 (wipe σ8 vs1) H12 (fun _ _ => False) I12 (stat1 n12) st12 stop1) fun r s13 ⟨hr, I13⟩ => ?_
            subst hr
            exact fin I13 (hl8.trans (wipe_length σ8 vs1).symm) hk9 nx1
          · refine thnF (T1.item (X.blk s3 H3 scope ce fp) rfl rfl rfl hc j _ s12 (wipe σ8 vs1) H12 (fun _ _ => False) I12 (stat1 n12) st12 go1) fun r s13 ⟨u1, hr, h13⟩ => ?_
            subst hr
            refine thnF h13 fun _ s14 ⟨x1, H14, I14, r14, y14, st14, n14⟩ => ?_
            have I14' := I14.pinned (stat1 n14) (T1.obj _ _ st14)
            refine thnF (pg1.run _ s14 (wipe σ8 vs1) H14 x1 u1 _ I14' r14 (step1 x1 H14 y14)) fun _ s15 ⟨σ15, H15, I15, hw15, q15⟩ => ?_
            refine thnF (pt1.run _ s15 σ15 H15 _ I15 q15) fun b1 s16 ⟨H16, I16, q16⟩ => ?_
            have fin1 : ∀ {s' : Shared} {H' : Hp}, Inv (X.blk s3 H3 scope ce fp) (([] ++ pinsAt fp s7.heap) ++ pinsAt fp1 s14.heap) σ15 H' s' → Nx1 H' → ∃ m, m < k ∧ ∃ j H', Inv (X.blk s3 H3 scope ce fp) ([] ++ pinsAt fp s7.heap) (wipe σ8 vs1) H' s' ∧ tn1 j s'.heap ∧ (∀ b ∈ fp1, H' b = none) ∧ W1 j m H' := fun {s' H'} I' nx => by
              obtain ⟨m', hm, w'⟩ := hNx1 H' nx
              have pin' : ∀ b ∈ fp1, ∀ o, s14.heap.get? b = some o → s'.heap.get? b = some o ∧ H' b = none := fun b hb o e =>
                let z := I'.pin (b, o) (List.mem_append_right _ (List.mem_append_right _ (mem_pinsAt hb e)))
                ⟨z.1, z.2.1⟩
              refine ⟨m', hm, j + 1, H', I'.unpinned.weak (by rw [← hw15, wipe_length]) (fun j v e => by rw [← hw15] at e; exact (wipe_some e).1), T1.keep _ _ _ st14 fun b hb o e => (pin' b hb o e).1, fun b hb => ?_, w'⟩
              obtain ⟨o, e, _⟩ := T1.obj _ _ st14 b hb
              exact (pin' b hb o e).2
            cases b1 with
            | false =>
              simp only [Bool.false_eq_true, if_false] at q16 ⊢
              exact fin1 I16 q16
            | true =>
              simp only [if_true] at q16 ⊢
              refine thnF (pk.run _ s16 σ15 H16 _ I16 q16) fun z s17 ⟨yk, H17, I17, r17, q17⟩ => ?_
              refine thnF (pe.run _ s17 σ15 H17 _ I17 q17) fun z2 s18 ⟨yv, H18, I18, r18, H19, hput, nx⟩ => ?_
              exact d_dictPut (X := X.blk s3 H3 scope ce fp) hu I18 hput r17 r18 fun s19 I19 => fin1 I19 nx
        exact compStartD_ok loop1 (T1.self X.A 0 _ _ _ st11 loop1)
  exact codeAny_compStart_dict loop (T.self X.A 0 _ _ _ st4 loop)
/-- as a value -/
theorem pe_dc2 {kx vx tg iter tg1 iter1 : Expr} {ifs ifs1 : List Expr} {scope : Scope} {own : List (Str × Nat)} {vs1 : List Nat} {pos : Pos} {wi wi1 : TI} {g g1 : TG} {tt tt1 : TT} {tk tv : TE} (hu : X.A.units + 1 < cLine) (hc : X.calm = true) (hN : X.N.Nodup) (hi : PI X tg iter wi) (ok : BlkOk X.N X.env.scope scope own) (hv : ∀ i ∈ vs1, i ∈ own.map (·.2))
    (hg : ∀ (s : Shared) (H : Hp) (C : Addr) (cl : List (Str × Addr)) (fp : List Addr), PG (X.blk s H scope (compEnvC scope cl C X.env) fp) tg g) (ht : ∀ (s : Shared) (H : Hp) (C : Addr) (cl : List (Str × Addr)) (fp : List Addr), PTs (X.blk s H scope (compEnvC scope cl C X.env) fp) ifs tt)
    (hi1 : ∀ (s : Shared) (H : Hp) (C : Addr) (cl : List (Str × Addr)) (fp : List Addr), PI (X.blk s H scope (compEnvC scope cl C X.env) fp) tg1 iter1 wi1)
    (hg1 : ∀ (s : Shared) (H : Hp) (C : Addr) (cl : List (Str × Addr)) (fp : List Addr), PG (X.blk s H scope (compEnvC scope cl C X.env) fp) tg1 g1) (ht1 : ∀ (s : Shared) (H : Hp) (C : Addr) (cl : List (Str × Addr)) (fp : List Addr), PTs (X.blk s H scope (compEnvC scope cl C X.env) fp) ifs1 tt1)
    (hk : ∀ (s : Shared) (H : Hp) (C : Addr) (cl : List (Str × Addr)) (fp : List Addr), PE (X.blk s H scope (compEnvC scope cl C X.env) fp) kx tk)
    (he : ∀ (s : Shared) (H : Hp) (C : Addr) (cl : List (Str × Addr)) (fp : List Addr), PE (X.blk s H scope (compEnvC scope cl C X.env) fp) vx tv) (hs : ∀ x, foldedSetIterable iter X.env x = pure x := by intro _; rfl) (hs1 : ∀ env x, foldedSetIterable iter1 env x = pure x := by intro _ _; rfl) :
    PE X (.DictComp kx vx [⟨tg, iter, ifs, 0⟩, ⟨tg1, iter1, ifs1, 0⟩] scope pos) (tDc2 wi g tt wi1 g1 tt1 tk tv (own.map (·.2)) vs1) := by
  refine ⟨fun pins s σ H Q I h => ?_⟩
  rw [arm_eval_DictComp]
  refine dc2_core hu hc hN I hi ok hv hg ht hk he hs hi1 hg1 ht1 hs1 h fun D C s' m H' I' q hn f => ⟨m, hn, fun h'' sb => ?_⟩
  obtain ⟨f0, f1, f2, f3, f4, f5⟩ := f
  exact ⟨.ref D, H', I'.turned (t' := s'.toks) (fun b o hb e => (sb.2 b hb).trans e) f0 f1 f3 f4 f5, rfl, q⟩
end
end G3
end

/-! ## G3Sides -/
section
set_option Elab.async false
set_option linter.all false
set_option maxRecDepth 100000
set_option maxHeartbeats 4000000
local macro_rules | `(tactic| walk_at "nf") => `(tactic| simp only [L2.tRet, L2.tRetN, L2.tAndV, L2.tOrV, L2.tNotV, L2.tCB, L2.tCons, L2.tNil, L2.tVar, L2.tC, L2.tDIn, L2.tDNotIn, L2.tDGet, L2.tOp, L2.tUn, L2.tTest, L2.tB, L2.tIf, L2.tIfS, L2.tAnd, L2.tOr, L2.tNot, L2.tSeq, L2.tAsg, L2.gName, L2.tDrop, L2.tNext, L2.tCall, L2.tTup, L2.tLst, L2.tBM, L2.tBM0, L2.tSl, L2.tPart, L2.tNoPart, L2.sDPut, L2.tFld, L2.sFld, L2.tMeth, L2.tYes, L2.gTup, L2.gCons, L2.gNil, L2.tIsN, L2.tNotN, L2.tPar, L2.tPar3, L2.tDNewK, L2.tDisp, L2.tPairs, L2.tDGet1, G3.dcT_op, G3.tFrz, G3.dcI_frz, G3.lcI_frz, G3.lcY_frz, G3.lcI_call, G3.lcT_lit, G3.forT_lit, G3.lcL_call, G3.lcL_op, G3.lcL_dget, G3.lcT_call, G3.lcT_op, G3.lcT_dget, G3.forL_call, G3.forL_op, G3.forL_dget, G3.forT_call, G3.forT_op, G3.forT_dget, G3.ex_l1, G3.ex_l2, G3.ex_l3,
  G3.start_eq, G3.cxOf_K, G3.wipe_nil, G3.wipe_cons, List.map_cons, List.map_nil, List.nil_append, List.cons_append, List.append_nil, List.getElem?_cons_zero, List.getElem?_cons_succ, List.set_cons_zero, List.set_cons_succ, List.set_nil, List.length_cons, List.length_nil, List.replicate, Option.some.injEq, G3.ex_eq, Nat.reduceAdd, Nat.reduceSub, Nat.zero_add, List.replicate_succ, List.replicate_zero, true_and, if_true, if_false, Bool.false_eq_true, Nat.add_zero, Int.add_zero])
namespace G3
open PySem PySem.Spec PyProof.Rows L2

abbrev sOddCycle : Stmt := top 29
abbrev sCheckTwoSided : Stmt := top 30
abbrev sSides : Stmt := top 31
theorem scOC : FnScope ["network", "tree", "one", "other"] ["network"] (defScope sOddCycle) := ⟨rfl, rfl, rfl, by decide +kernel, rfl, by decide +kernel, by decide +kernel⟩
theorem scC2 : FnScope ["network", "cycle"] ["network"] (defScope sCheckTwoSided) := ⟨rfl, rfl, rfl, by decide +kernel, rfl, by decide +kernel, by decide +kernel⟩
theorem scSides : FnScope ["network", "side", "first", "second", "tree", "service", "number", "before"] ["network"] (defScope sSides) := ⟨rfl, rfl, rfl, by decide +kernel, rfl, by decide +kernel, by decide +kernel⟩
def spOddCycle : Sp := fun vs H Q _ => ∃ (n : Net) (v : V), vs = [v] ∧ NetAt H n v ∧ NetOk n ∧ ∀ H', Same H H' → Q .non H'
structure SideOk (n : Net) (fst : List Str) : Prop where
  sub : ∀ s ∈ fst, s ∈ n.1
  two : ∀ p ∈ n.2, (p.1 ∈ fst ↔ p.2 ∉ fst)
def spSides : Sp := fun vs H Q _ => ∃ (n : Net) (v : V), vs = [v] ∧ NetAt H n v ∧ NetOk n ∧ ∀ p (fst snd : List Str) H', Same H H' → At H' (fst, snd) (.ref p) → SideOk n fst → Q (.ref p) H'
theorem tree_idx {H : Hp} : ∀ {tr : Tree} {kvs : List (Key × V)} {j : Nat} {key : Key} {val : V}, TreeK H tr kvs → kvs[j]? = some (key, val) → ∃ p, tr[j]? = some p ∧ key = .inr p.1 ∧ ∃ a u, val = .ref a ∧ H a = some (.tup [.int p.2, u])
  | [], [], j, key, val, h, e => by cases e
  | [], q :: kvs, j, key, val, h, e => by cases h.1
  | p :: tr, [], j, key, val, h, e => by cases h.1
  | p :: tr, q :: kvs, j, key, val, h, e => by
    obtain ⟨h1, h2⟩ := h
    rw [List.map_cons, List.map_cons] at h1 h2
    obtain ⟨e1, e2⟩ := List.cons.inj h1
    cases h2 with
    | cons h3 h4 =>
      cases j with
      | zero => cases e; exact ⟨p, rfl, e1, h3⟩
      | succ j =>
        obtain ⟨p', i1, i2⟩ := tree_idx (j := j) ⟨e2, h4⟩ (by simpa using e)
        exact ⟨p', by simpa using i1, i2⟩
/-- the sides by the trees so far -/
structure SideMap (n : Net) (trs : List Tree) (φ : Str → Option Int) : Prop where
  all : ∀ tr ∈ trs, ∀ s ∈ tr.map (·.1), ∃ l, φ s = some l
  bit : ∀ s l, φ s = some l → (l = 0 ∨ l = 1) ∧ ∀ t, (s, t) ∈ n.2 ∨ (t, s) ∈ n.2 → φ t = some (1 - l)
theorem SideMap.nil {n : Net} : SideMap n [] fun _ => none := ⟨(fun _ h => by cases h), (fun _ _ h => by cases h)⟩
def over (tr : Tree) (φ : Str → Option Int) (s : Str) : Option Int := match gv tr s with
  | some l => some l
  | none => φ s
theorem over_snoc {tr : Tree} {φ : Str → Option Int} {j : Nat} {p : Str × Int} (nd : (tr.map (·.1)).Nodup) (h : tr[j]? = some p) (s : Str) : over (tr.take (j + 1)) φ s = if s = p.1 then some p.2 else over (tr.take j) φ s := by
  have e : tr.take (j + 1) = tr.take j ++ [p] := by rw [List.take_add_one, h]; rfl
  have hn : p.1 ∉ (tr.take j).map (·.1) := fun hm => by
    have n2 : ((tr.take (j + 1)).map (·.1)).Nodup := nd.sublist ((List.take_sublist _ _).map _)
    rw [e, List.map_append, List.nodup_append] at n2
    exact n2.2.2 _ hm p.1 (by simp) rfl
  unfold over
  rw [e, gv_append]
  by_cases es : s = p.1
  · rw [if_pos es, es, gv_none.mpr hn]
    show (match gv [p] p.1 with | some l => some l | none => φ p.1) = some p.2
    rw [gv_cons, if_pos rfl]
  · rw [if_neg es]
    cases eg : gv (tr.take j) s with
    | some l => rfl
    | none =>
      show (match gv [p] s with | some l => some l | none => φ s) = φ s
      rw [gv_cons, if_neg (fun z => es z.symm)]; rfl
theorem SideMap.step {n : Net} {trs : List Tree} {φ : Str → Option Int} {tr : Tree} (h : SideMap n trs φ) (t : TreeOk n tr) : SideMap n (trs ++ [tr]) (over tr φ) := by
  refine ⟨fun tr' ht s hs => ?_, fun s l e => ?_⟩
  · unfold over
    cases e : gv tr s with
    | some l => exact ⟨l, rfl⟩
    | none =>
      rcases List.mem_append.mp ht with ht | ht
      · exact h.all tr' ht s hs
      · rw [List.mem_singleton.mp ht] at hs
        exact absurd hs (gv_none.mp e)
  · unfold over at e
    cases es : gv tr s with
    | some l' =>
      rw [es] at e
      cases e
      obtain ⟨b1, b2⟩ := t.bit s l es
      exact ⟨b1, fun z hz => by unfold over; rw [b2 z hz]⟩
    | none =>
      rw [es] at e
      obtain ⟨b1, b2⟩ := h.bit s l e
      refine ⟨b1, fun z hz => ?_⟩
      unfold over
      cases ez : gv tr z with
      | none => exact b2 z hz
      | some l' =>
        have := (t.bit z l' ez).2 s (by rcases hz with h | h; exact .inr h; exact .inl h)
        rw [es] at this
        cases this
section
variable {P : Program} {w : World} {K : PySem.W.Frag} {mg : Str → Option Value} {base : Heap}
theorem ok_odd_cycle (G : Df P w K mg base CX0 2 "trees" ["network"] spTrees) (F : St0 K mg "odd_cycle" sOddCycle) : Df P w K mg base CX0 3 "odd_cycle" ["network"] spOddCycle := by
  refine F.ok0 scOC (fun vs H Q E h => ?_) (fun _ _ _ _ _ _ us hl => match us, hl with | [_], _ => rfl) fun f cdv A outer s H vs Q E hr h => ?_
  · obtain ⟨n, v, rfl, _⟩ := h
    rfl
  obtain ⟨n, v, rfl, hn, ok, q⟩ := h
  refine ⟨_, pss_cons (ps_for PassesOwn.never rfl (piL K (pe_df G hr pass0 (pa_cons (pv 0) pa_nil))) (pg_name (i := 1) scOC.nd rfl (Or.inl rfl))
      (pss_one (ps_for PassesOwn.never rfl (piT K (eT K (pv 0) pe_int)) (pg_tup rfl (pgs_cons (pg_name (i := 2) scOC.nd rfl (Or.inl rfl)) (pgs_cons (pg_name (i := 3) scOC.nd rfl (Or.inl rfl)) pgs_nil)))
        (pss_one (ps_if (PW.pt (pw_and (pt_cmp (pc_din (hu_of hr) (pv 2) (pv 1))) (pw_and1 (pt_cmpR op_eq (eT K (pe_dget (hu_of hr) (pv 1) (pv 2) (fun _ _ => rfl)) pe_int) (eT K (pe_dget (hu_of hr) (pv 1) (pv 3) (fun _ _ => rfl)) pe_int) (nomark _))))) pss_never pss_nil)))))
    (pss_one (ps_ret pe_non)), ?_⟩
  walk_at "nf"
  refine ⟨n, v, rfl, hn, ok, fun D ds trs H1 s1 hD hD' hp hto hall hlen => ?_⟩
  refine for_listR (R := RTree) (l := trs) (fun R h => h) ⟨_, .of hD'⟩ (fun i σ' H' => ∃ u1 u2 u3, σ' = [some v, u1, u2, u3] ∧ Same H1 H') (fun i σ' H' ⟨_, _, _, _, s⟩ => ⟨s.seq (.of hD'), Paired.mapP hp fun b v q => stab_tree _ _ b v s.tupS q⟩) ⟨_, _, _, rfl, .refl _⟩ (fun i tr x σ' H2 htr hp2 hx => ?_) fun σ' H' hp2 => ?_
  · obtain ⟨u1, u2, u3, rfl, s2⟩ := hp2
    obtain ⟨d, od, kvs, rfl, hd, hk⟩ := hx
    have htm : tr ∈ trs := List.mem_of_getElem? htr
    have tok := hto tr htm
    walk_at "nf"
    refine r_p1 (hn.same (s1.trans s2)) fun w1 hw1 => ?_
    obtain ⟨p1, xs1, rfl, hp1, hx1⟩ := at_list.mp hw1
    refine for_tup (fun R h => h) (l := n.2) ⟨.inl hp1, hx1⟩ (fun i σ' H' => ∃ u2 u3, σ' = [some v, some (.ref d), u2, u3] ∧ Same H2 H') (fun i σ' H' ⟨_, _, _, s⟩ => s.tupS) ⟨_, _, rfl, .refl _⟩ (fun j a x σ' H3 ha hp3 hx => ?_) fun σ' H' hp3 => ?_
    · obtain ⟨u2, u3, rfl, s3⟩ := hp3
      obtain ⟨a1, a2⟩ := a
      have hmem : (a1, a2) ∈ n.2 := List.mem_of_getElem? ha
      have hd3 := s3 _ _ hd
      have hk3 := hk.tup s3.tupS
      refine g_pair (a := a1) (b := a2) hx fun y1 y2 h1 h2 => ?_
      rw [at_str.mp h1, at_str.mp h2]
      walk_at "nf"
      refine ⟨d, _, rfl, .inl ⟨kvs, .inr a1, .inr ⟨od, hd3⟩, rfl, rfl⟩, _, rfl, ?_⟩
      rw [(tree_get hk3).1]
      by_cases hin : a1 ∈ tr.map (·.1)
      · rw [decide_eq_true hin]
        obtain ⟨l, hl⟩ := gv_key hin
        obtain ⟨hb, hn2⟩ := tok.bit a1 l hl
        have hl2 := hn2 a2 (.inl hmem)
        obtain ⟨q1, w1', e1, f1⟩ := (tree_get hk3).2 l hl
        obtain ⟨q2, w2', e2, f2⟩ := (tree_get hk3).2 _ hl2
        refine iteT' rfl ⟨d, _, rfl, .inl ⟨kvs, .inr a1, .inr ⟨od, hd3⟩, rfl, e1.symm⟩, q1, _, 0, .int l, rfl, rfl, .of f1, atI_nat (j := 0) rfl, d, _, rfl, .inl ⟨kvs, .inr a2, .inr ⟨od, hd3⟩, rfl, e2.symm⟩, q2, _, 0, .int (1 - l), rfl, rfl, .of f2, atI_nat (j := 0) rfl, rfl, _, rfl, ?_⟩
        refine iteF' (decide_eq_false fun e => ?_) ⟨_, _, rfl, s3⟩
        have := V.int.inj e
        omega
      · rw [decide_eq_false hin]
        exact iteF' rfl ⟨_, _, rfl, s3⟩
    · obtain ⟨u2, u3, rfl, s3⟩ := hp3
      exact ⟨_, _, _, rfl, s2.trans s3⟩
  · obtain ⟨u1, u2, u3, rfl, s2⟩ := hp2
    exact q _ (s1.trans s2)
theorem ok_check_two_sided (G : Df P w K mg base CX0 3 "odd_cycle" ["network"] spOddCycle) (F : St0 K mg "check_two_sided" sCheckTwoSided) : Df P w K mg base CX0 4 "check_two_sided" ["network"] spOddCycle := by
  refine F.ok0 scC2 (fun vs H Q E h => ?_) (fun _ _ _ _ _ _ us hl => match us, hl with | [_], _ => rfl) fun f cdv A outer s H vs Q E hr h => ?_
  · obtain ⟨n, v, rfl, _⟩ := h
    rfl
  obtain ⟨n, v, rfl, hn, ok, q⟩ := h
  refine ⟨_, pss_cons (ps_set (i := 1) scC2.nd rfl (Or.inl rfl) (pe_df G hr pass0 (pa_cons (pv 0) pa_nil))) (pss_one (ps_if (pt_cmpR op_notN (pv 1) pe_non (nomark _)) pss_never pss_nil)), ?_⟩
  walk_at "nf"
  exact ⟨n, v, rfl, hn, ok, fun H' s => ⟨_, rfl, iteF' rfl (q _ s)⟩⟩
theorem ok_sides (T : Bt mg) (G1 : Df P w K mg base CX0 4 "check_two_sided" ["network"] spOddCycle) (G2 : Df P w K mg base CX0 2 "trees" ["network"] spTrees) (F : St0 K mg "sides" sSides) : Df P w K mg base CX0 5 "sides" ["network"] spSides := by
  refine F.ok0 scSides (fun vs H Q E h => ?_) (fun _ _ _ _ _ _ us hl => match us, hl with | [_], _ => rfl) fun f cdv A outer s H vs Q E hr h => ?_
  · obtain ⟨n, v, rfl, _⟩ := h
    rfl
  obtain ⟨n, v, rfl, hn, ok, q⟩ := h
  refine ⟨_, pss_cons (ps_expr (pe_df G1 hr pass0 (pa_cons (pv 0) pa_nil)))
    (pss_cons (ps_set (i := 1) scSides.nd rfl (Or.inr rfl) (pe_dc2 (own := [("tree", 4), ("service", 5), ("number", 6), ("before", 7)]) (vs1 := [5, 6, 7]) (g := gName 4) (g1 := gTup K 2 (gCons (gName 5) (gCons (gTup K 2 (gCons (gName 6) (gCons (gName 7) gNil))) gNil))) (hu_of hr) rfl scSides.nd
        (piL K (pe_df G2 hr pass0 (pa_cons (pv 0) pa_nil))) (blkOk_by (by rfl)) (by decide) (fun _ _ _ _ _ => pg_name (i := 4) scSides.nd rfl (Or.inl rfl)) (fun _ _ _ _ _ => pts_nil)
        (fun _ _ _ _ _ => pi_items (pv 4)) (fun _ _ _ _ _ => pg_tup rfl (pgs_cons (pg_name (i := 5) scSides.nd rfl (Or.inl rfl)) (pgs_cons (pg_tup rfl (pgs_cons (pg_name (i := 6) scSides.nd rfl (Or.inl rfl)) (pgs_cons (pg_name (i := 7) scSides.nd rfl (Or.inl rfl)) pgs_nil))) pgs_nil))) (fun _ _ _ _ _ => pts_nil)
        (fun _ _ _ _ _ => pv 5) (fun _ _ _ _ _ => pv 6)))
    (pss_cons (ps_asg (pe_lc (own := [("number", 6)]) (g := gName 6) rfl scSides.nd (piT K (pe_tup (pa_cons pe_int (pa_cons pe_int pa_nil)))) (blkOk_by (by rfl)) (fun _ _ _ _ _ => pg_name (i := 6) scSides.nd rfl (Or.inr rfl)) (fun _ _ _ _ _ => pts_nil)
        (fun _ _ _ _ _ => eTup K T (pe_lc (own := [("service", 5)]) (g := gName 5) rfl scSides.nd (piT K (eT K (pv 0) pe_int)) (blkOk_by (by rfl)) (fun _ _ _ _ _ => pg_name (i := 5) scSides.nd rfl (Or.inl rfl))
          (fun _ _ _ _ _ => pts_one (pt_cmpR op_eq (pe_dget (hu_of hr) (pv 1) (pv 5) (fun _ _ => rfl)) (pv 6) (nomark _))) (fun _ _ _ _ _ => pv 5))))
        (pg_unl rfl (pgs_cons (pg_name (i := 2) scSides.nd rfl (Or.inl rfl)) (pgs_cons (pg_name (i := 3) scSides.nd rfl (Or.inl rfl)) pgs_nil))))
    (pss_one (ps_ret (pe_tup (pa_cons (pv 2) (pa_cons (pv 3) pa_nil))))))), ?_⟩
  walk_at "nf"
  refine ⟨n, v, rfl, hn, ok, fun H1 s1 => ⟨_, rfl, n, v, rfl, hn.same s1, ok, fun Dl ds trs H2 s2 hD hD' hp hto hall hlen => ⟨Dl, rfl, ⟨_, .of hD'⟩, fun D hDn =>
    ⟨fun i m H => m = trs.length - i ∧ i ≤ trs.length ∧ Same H2 H ∧ ∃ (kvs : List (Key × V)) (φ : Str → Option Int), H D = some (.dK kvs) ∧ kvs.length ≤ 10 * i ∧ (∀ s, valV kvs (.inr s) = (φ s).map V.int) ∧ SideMap n (trs.take i) φ, ⟨_, rfl, Nat.zero_le _, Same.new hDn, [], fun _ => none, upd_same, Nat.le_refl _, fun s => rfl, SideMap.nil⟩, ?_⟩⟩⟩⟩
  rintro i m H3 ⟨rfl, hi, s3, kvs, φ, k1, k2, k3, k4⟩
  by_cases hlt : i < trs.length
  · have hsq : SqL K H3 Dl ds := s3.seq (.of hD')
    have hdl : ds.length = trs.length := hp.length.symm
    refine .inr ⟨⟨ds, ds[i]'(by omega), hsq, by simp [show i < ds.length by omega]⟩, fun H => Same H2 H ∧ ∃ (kvs : List (Key × V)) (φ : Str → Option Int), H D = some (.dK kvs) ∧ kvs.length ≤ 10 * (i + 1) ∧ (∀ s, valV kvs (.inr s) = (φ s).map V.int) ∧ SideMap n (trs.take (i + 1)) φ, fun H' h => ⟨_, by omega, rfl, hlt, h⟩, fun x H' ⟨e, hx⟩ => ?_⟩
    subst e
    obtain ⟨tr, htr, d, od, tk, rfl, hd, hk⟩ := paired_get hp (hx ds hsq)
    have hd2 := hd
    have hk2 := hk
    have hd := s3 _ _ hd
    have hk := hk.tup s3.tupS
    have tok := hto tr (List.mem_of_getElem? htr)
    have trlen : tr.length ≤ 10 := by
      have := nodup_len (m := n.1) tok.nd fun a ha => by
        obtain ⟨p, hp, rfl⟩ := List.mem_map.mp ha
        exact tok.sub p hp
      rw [List.length_map] at this
      exact Nat.le_trans this ok.len
    have tklen : tk.length = tr.length := by
      have := congrArg List.length hk.1
      simpa using this
    refine ⟨rfl, ?_⟩
    walk_at "nf"
    refine ⟨_, rfl, d, od, tk, rfl, hd, fun j k H => k = tk.length - j ∧ j ≤ tk.length ∧ Same H2 H ∧ ∃ (kvs' : List (Key × V)) (φ' : Str → Option Int), H D = some (.dK kvs') ∧ kvs'.length ≤ 10 * i + j ∧ (∀ s, valV kvs' (.inr s) = (φ' s).map V.int) ∧ ∀ s, φ' s = over (tr.take j) φ s,
      ⟨_, rfl, Nat.zero_le _, s3, kvs, φ, k1, k2, k3, fun s => rfl⟩, ?_⟩
    rintro j k H5 ⟨rfl, hj, s5, kvs', φ', j1, j2, j3, j4⟩
    by_cases hjl : j < tk.length
    · refine .inr ⟨⟨s5 _ _ hd2, hjl⟩, fun H => Same H2 H ∧ ∃ (kvs' : List (Key × V)) (φ' : Str → Option Int), H D = some (.dK kvs') ∧ kvs'.length ≤ 10 * i + (j + 1) ∧ (∀ s, valV kvs' (.inr s) = (φ' s).map V.int) ∧ ∀ s, φ' s = over (tr.take (j + 1)) φ s, fun H' h => ⟨_, by omega, rfl, hjl, h⟩, fun x H6 hy => ?_⟩
      obtain ⟨T0, key, val, y1, y2, y3, rfl⟩ := hy
      obtain ⟨p, pi, pk, pa, pu, pv, ph⟩ := tree_idx hk2 y1
      subst y2 pk pv
      have hT : upd H5 T0 (.tup [kV (.inr p.1), .ref pa]) pa = some (.tup [.int p.2, pu]) := by rw [upd_ne (ne_of_none (s5 _ _ ph) y3)]; exact s5 _ _ ph
      have hDT : D ≠ T0 := ne_of_none j1 y3
      refine ⟨T0, _, rfl, .of upd_same, rfl, _, _, rfl, _, _, rfl, pa, _, rfl, .of hT, rfl, _, _, rfl, _, _, rfl, ?_⟩
      refine ⟨rfl, rfl, _, DPut.k (k := Sum.inr p.1) (by rw [upd_ne hDT]; exact j1) (small1000 (by omega)), (s5.snew y3).put hDn, _, fun s => if s = p.1 then some p.2 else φ' s, upd_same, ?_, fun s => ?_, fun s => ?_⟩
      · have := length_putK kvs' (.inr p.1) (.int p.2)
        omega
      · rw [valV_put]
        show _ = (if s = p.1 then some p.2 else φ' s).map V.int
        by_cases es : s = p.1
        · rw [if_pos (by rw [es]), if_pos es]; rfl
        · rw [if_neg (fun z => es (Sum.inr.inj z)), if_neg es]; exact j3 s
      · rw [over_snoc tok.nd pi]
        show (if s = p.1 then some p.2 else φ' s) = _
        by_cases es : s = p.1
        · rw [if_pos es, if_pos es]
        · rw [if_neg es, if_neg es]; exact j4 s
    · have e : j = tk.length := by omega
      subst e
      refine .inl ⟨⟨s5 _ _ hd2, Nat.le_refl _⟩, s5, kvs', φ', j1, by omega, j3, ?_⟩
      have ef : φ' = over tr φ := by
        funext s
        rw [j4 s, tklen, List.take_length]
      rw [ef, List.take_add_one, htr]
      exact k4.step tok
  · have e : i = trs.length := by omega
    subst e
    rw [List.take_length] at k4
    refine .inl ⟨⟨ds, s3.seq (.of hD'), Nat.le_of_eq hp.length.symm⟩, ?_⟩
    walk_at "nf"
    refine ⟨by decide, fun pt hpt => ?_⟩
    have sT : Same H (upd H3 pt (.tup [.int 0, .int 1])) := ((s1.trans s2).trans s3).snew hpt
    have kD : upd H3 pt (.tup [.int 0, .int 1]) D = some (.dK kvs) := by rw [upd_ne (ne_of_none k1 hpt)]; exact k1
    have hpT : upd H3 pt (.tup [.int 0, .int 1]) pt = some (.tup [.int 0, .int 1]) := upd_same
    generalize upd H3 pt (.tup [.int 0, .int 1]) = H4 at sT kD hpT
    have hall' : ∀ s ∈ n.1, ∃ l, φ s = some l := fun s hs => by
      obtain ⟨tr, h1, h2⟩ := hall s hs
      exact k4.all tr h1 s h2
    refine lc_tup (fun R h => h) (l := [0, 1]) ⟨.of hpT, al_int.mpr rfl⟩ RAt stab_at (fun _ => true) (fun z : Int => n.1.filter fun s => decide (φ s = some z)) (by decide) (fun z y H5 R hz s5 hy kp dr => ?_) fun D2 ys H5 hD2 s5 hD2' hp2 => ?_
    · rw [at_int.mp hy]
      refine ⟨rfl, ?_⟩
      walk_at "nf"
      refine r_p0 (hn.same (sT.trans s5)) fun w0 hw0 => ?_
      obtain ⟨p0, xs0, rfl, hp0, hx0⟩ := at_list.mp hw0
      refine lc_tup (fun R h => h) (l := n.1) ⟨.inl hp0, hx0⟩ RAt stab_at (fun s => decide (φ s = some z)) id (small64 (Nat.le_trans ok.len (by decide))) (fun a y2 H6 R2 ha s6 hy2 kp2 dr2 => ?_) fun D3 ys H6 hD3 s6 hD3' hp3 => ?_
      · rw [at_str.mp hy2]
        refine ⟨rfl, ?_⟩
        walk_at "nf"
        obtain ⟨l, hl⟩ := hall' a ha
        have e3 : valV kvs (.inr a) = some (.int l) := by rw [k3 a, hl]; rfl
        refine ⟨D, _, rfl, .inl ⟨kvs, .inr a, .inl (s6 _ _ (s5 _ _ kD)), rfl, e3.symm⟩, rfl, _, rfl, ?_⟩
        by_cases e : l = z
        · exact iteT' (by rw [e]; simp) (kp2 _ _ (.refl _) (by rw [hl, e]; simp) rfl)
        · refine iteF' (decide_eq_false fun h => e (V.int.inj h)) (dr2 _ (.refl _) (decide_eq_false fun h => e ?_))
          rw [hl] at h
          exact Option.some.inj h
      · rw [List.map_id] at hp3
        exact r_tupL hD3' hp3 fun p hp' ha => kp _ _ (s6.snew hp') rfl ha
    · rw [filter_true] at hp2
      cases hp2 with
      | cons q0 hp2 =>
        cases hp2 with
        | cons q1 hp2 =>
          cases hp2
          refine ⟨D2, _, rfl, .of hD2', rfl, _, _, rfl, _, _, rfl, rfl, ?_⟩
          walk_at "nf"
          refine ⟨by decide, fun p hp => q p _ _ _ ((sT.trans s5).snew hp) (at_new2 hp q0 q1) ⟨fun s hs => (List.mem_filter.mp hs).1, fun p hp => ?_⟩⟩
          obtain ⟨t1, t2, t3⟩ := ok.tk p hp
          obtain ⟨l, hl⟩ := hall' _ t1
          obtain ⟨b1, b2⟩ := k4.bit _ l hl
          have hl2 := b2 p.2 (.inl hp)
          rw [List.mem_filter, List.mem_filter, hl, hl2]
          rcases b1 with rfl | rfl <;> simp [t1, t2]
end
end G3
end

/-! ## G3ZipD -/
section
set_option Elab.async false
set_option linter.all false
set_option maxRecDepth 100000
set_option maxHeartbeats 4000000
/-! dict(zip(a, b)) of two tuples (the zip's steps turned from those over lists). -/
namespace G3
open PySem PySem.Spec PyProof.Rows L2 RZ
section
variable {prog : Program} {w : World} {A : Around} {E : Value → Shared → Prop} {s : Shared}
theorem zipT_next_item_held {z TI TO T i1 i2 l1 l2 : Addr} {f : Bool} {oT : Obj} {k1 k2 : Nat} {xs ys : Array Value} {x y : Value} {Q : Value → Shared → Prop} (D : ZipApart z TI TO i1 i2 l1 l2)
    (hz : IsZipHeld s.heap z TI TO T f) (hT : s.heap.get? T = some oT) (hTI : IsPair s.heap TI (.ref i1) (.ref i2))
    (h1 : s.heap.IsTupleIter i1 l1 k1) (h2 : s.heap.IsTupleIter i2 l2 k2) (hl1 : s.heap.IsTuple l1 xs) (hl2 : s.heap.IsTuple l2 ys) (hx : xs[k1]? = some x) (hy : ys[k2]? = some y)
    (hQ : ∀ h', IsZipHeld h' z TI TO T true → h'.IsTupleIter i1 l1 (k1 + 1) → h'.IsTupleIter i2 l2 (k2 + 1) → IsPair h' s.heap.objs.size x y → h'.objs.size = s.heap.objs.size + 1 →
      (∀ c o, c ≠ z → c ≠ i1 → c ≠ i2 → s.heap.get? c = some o → h'.get? c = some o) → Q (.ref s.heap.objs.size) { s with heap := h' }) :
    wpAny (model prog w) A (Builtin.«zip.__next__» ⟨[.ref z], []⟩) (fun fin s' => ∃ v, fin = .done (.ret v) ∧ Q v s') E s := by
  show wpAny _ _ (field (.ref z) 2 >>= _) _ _ _
  refine wpAny_bind (wpAny_field hz rfl (x := .bool false) rfl ?_)
  show wpAny _ _ (field (.ref z) 3 >>= _) _ _ _
  refine wpAny_bind (wpAny_field hz rfl (x := .ref TI) rfl ?_)
  refine wpAny_bind (wpAny_seqItems hTI rfl ?_)
  show wpAny _ _ (Builtin.SmallTypes.ownedTupleIsFree (.ref z) >>= _) _ _ _
  refine wpAny_bind (wpAny_tupleHeld_zip hz hT fun h₁ hz₁ hs₁ => ?_)
  simp only [Bool.false_eq_true, if_false]
  refine wpAny_bind ?_
  rw [← Array.forIn_toList]
  simp only [List.forIn_cons, List.forIn_nil]
  refine wpAny_bind (wpAny_bind (wpAny_holding ?_))
  show wpAny _ _ (Builtin.SmallTypes.nextOf (.ref i1) >>= _) _ _ _
  refine wpAny_bind (nextOf_tuple_item (s := { s with heap := h₁ }) (h1.extBut hs₁.extBut D.i1z) (hl1.extBut hs₁.extBut D.l1z) hx fun h₂ h1₂ hs₂ => wpAny_pure ?_)
  refine wpAny_pure ?_
  refine wpAny_bind (wpAny_bind (wpAny_holding ?_))
  show wpAny _ _ (Builtin.SmallTypes.nextOf (.ref i2) >>= _) _ _ _
  refine wpAny_bind (nextOf_tuple_item (s := { s with heap := h₂ }) ((h2.extBut hs₁.extBut D.i2z).extBut hs₂.extBut D.i12.symm) ((hl2.extBut hs₁.extBut D.l2z).extBut hs₂.extBut D.l2i1) hy fun h₃ h2₃ hs₃ => wpAny_pure ?_)
  refine wpAny_pure (wpAny_pure ?_)
  show wpAny _ _ (newTuple [x, y] >>= _) _ _ _
  refine wpAny_bind (wpAny_newTuple ?_)
  have hsz : h₃.objs.size = s.heap.objs.size := by rw [hs₃.1, hs₂.1, hs₁.1]
  have hz₃ : IsZipHeld h₃ z TI TO T true := hs₃.extBut _ _ D.i2z.symm (hs₂.extBut _ _ D.i1z.symm hz₁)
  have hk : ∀ c o, c ≠ z → c ≠ i1 → c ≠ i2 → s.heap.get? c = some o → h₃.get? c = some o := fun c o c1 c2 c3 e => hs₃.extBut _ _ c3 (hs₂.extBut _ _ c2 (hs₁.extBut _ _ c1 e))
  have h1₃ : h₃.IsTupleIter i1 l1 (k1 + 1) := h1₂.extBut hs₃.extBut D.i12
  refine wpAny_pure ⟨_, rfl, ?_⟩
  show Q (.ref h₃.objs.size) _
  have hp : IsPair (h₃.push { cls := .type "tuple", data := .seq #[x, y] }) h₃.objs.size x y := Heap.get?_push_size _ rfl
  have hz4 : (h₃.push { cls := .type "tuple", data := .seq #[x, y] }).objs.size = h₃.objs.size + 1 := Heap.size_push ..
  rw [hsz] at hp hz4 ⊢
  exact hQ _ (Heap.get?_push_of_some _ hz₃) (h1₃.at fun o e => Heap.get?_push_of_some _ e) (h2₃.at fun o e => Heap.get?_push_of_some _ e) hp hz4 fun c o c1 c2 c3 e => Heap.get?_push_of_some _ (hk c o c1 c2 c3 e)

theorem zipT_next_end_held {z TI TO T i1 i2 l1 l2 : Addr} {f : Bool} {oT : Obj} {k1 k2 : Nat} {xs ys : Array Value} {Q : Fin → Shared → Prop} (hh : A.handled = none) (D : ZipApart z TI TO i1 i2 l1 l2)
    (hz : IsZipHeld s.heap z TI TO T f) (hT : s.heap.get? T = some oT) (hTI : IsPair s.heap TI (.ref i1) (.ref i2))
    (h1 : s.heap.IsTupleIter i1 l1 k1) (h2 : s.heap.IsTupleIter i2 l2 k2) (hl1 : s.heap.IsTuple l1 xs) (hl2 : s.heap.IsTuple l2 ys) (hend : xs[k1]? = none ∨ ys[k2]? = none)
    (hE : ∀ h' e, (∀ c o, c ≠ z → c ≠ i1 → c ≠ i2 → s.heap.get? c = some o → h'.get? c = some o) → (∃ o, h'.get? e = some o ∧ o.cls = .type "StopIteration") → E (.ref e) { s with heap := h' }) :
    wpAny (model prog w) A (Builtin.«zip.__next__» ⟨[.ref z], []⟩) Q E s := by
  show wpAny _ _ (field (.ref z) 2 >>= _) _ _ _
  refine wpAny_bind (wpAny_field hz rfl (x := .bool false) rfl ?_)
  show wpAny _ _ (field (.ref z) 3 >>= _) _ _ _
  refine wpAny_bind (wpAny_field hz rfl (x := .ref TI) rfl ?_)
  refine wpAny_bind (wpAny_seqItems hTI rfl ?_)
  show wpAny _ _ (Builtin.SmallTypes.ownedTupleIsFree (.ref z) >>= _) _ _ _
  refine wpAny_bind (wpAny_tupleHeld_zip hz hT fun h₁ hz₁ hs₁ => ?_)
  simp only [Bool.false_eq_true, if_false]
  refine wpAny_bind ?_
  rw [← Array.forIn_toList]
  simp only [List.forIn_cons, List.forIn_nil]
  refine wpAny_bind (wpAny_bind (wpAny_holding ?_))
  show wpAny _ _ (Builtin.SmallTypes.nextOf (.ref i1) >>= _) _ _ _
  cases hx : xs[k1]? with
  | none =>
    refine wpAny_bind (nextOf_tuple_end (s := { s with heap := h₁ }) hh (h1.extBut hs₁.extBut D.i1z) (hl1.extBut hs₁.extBut D.l1z) hx fun h₂ e hs₂ he => ?_)
    exact hE h₂ e (fun c o c1 c2 _ x => hs₂ _ _ c2 (hs₁.extBut _ _ c1 x)) he
  | some x =>
    have hy : ys[k2]? = none := by rcases hend with h | h; rw [hx] at h; cases h; exact h
    refine wpAny_bind (nextOf_tuple_item (s := { s with heap := h₁ }) (h1.extBut hs₁.extBut D.i1z) (hl1.extBut hs₁.extBut D.l1z) hx fun h₂ h1₂ hs₂ => wpAny_pure ?_)
    refine wpAny_pure ?_
    refine wpAny_bind (wpAny_bind (wpAny_holding ?_))
    show wpAny _ _ (Builtin.SmallTypes.nextOf (.ref i2) >>= _) _ _ _
    refine wpAny_bind (nextOf_tuple_end (s := { s with heap := h₂ }) hh ((h2.extBut hs₁.extBut D.i2z).extBut hs₂.extBut D.i12.symm) ((hl2.extBut hs₁.extBut D.l2z).extBut hs₂.extBut D.l2i1) hy fun h₃ e hs₃ he => ?_)
    exact hE h₃ e (fun c o c1 c2 c3 x => hs₃ _ _ c3 (hs₂.extBut _ _ c2 (hs₁.extBut _ _ c1 x))) he

theorem pyNext_zipT_item_held {z TI TO T i1 i2 l1 l2 : Addr} {f : Bool} {oT : Obj} {k1 k2 : Nat} {xs ys : Array Value} {x y : Value} {Q : Option Value → Shared → Prop} (D : ZipApart z TI TO i1 i2 l1 l2)
    (hz : IsZipHeld s.heap z TI TO T f) (hT : s.heap.get? T = some oT) (hTI : IsPair s.heap TI (.ref i1) (.ref i2))
    (h1 : s.heap.IsTupleIter i1 l1 k1) (h2 : s.heap.IsTupleIter i2 l2 k2) (hl1 : s.heap.IsTuple l1 xs) (hl2 : s.heap.IsTuple l2 ys) (hx : xs[k1]? = some x) (hy : ys[k2]? = some y)
    (hQ : ∀ h', IsZipHeld h' z TI TO T true → h'.IsTupleIter i1 l1 (k1 + 1) → h'.IsTupleIter i2 l2 (k2 + 1) → IsPair h' s.heap.objs.size x y → h'.objs.size = s.heap.objs.size + 1 →
      (∀ c o, c ≠ z → c ≠ i1 → c ≠ i2 → s.heap.get? c = some o → h'.get? c = some o) → Q (some (.ref s.heap.objs.size)) { s with heap := h' }) :
    wpAny (model prog w) A (pyNext (.ref z)) Q E s := by
  have hTy : s.TypeIs (.ref z) "zip" := ⟨_, hz, rfl⟩
  unfold pyNext
  exact wpAny_bind (wpAny_attempt (wpAny_callSpecial?_slot (name := Str.ofString "__next__") hTy F.slot_zip_next
    (wpAny_call_entry F.slot_zip_next hTy F.entry_zip_next
      (zipT_next_item_held D hz hT hTI h1 h2 hl1 hl2 hx hy fun h' a1 a3 a4 a5 a6 a7 => wpAny_pure (hQ h' a1 a3 a4 a5 a6 a7)) (F.args_zip_next_1 _))))
theorem pyNext_zipT_end_held {z TI TO T i1 i2 l1 l2 : Addr} {f : Bool} {oT : Obj} {k1 k2 : Nat} {xs ys : Array Value} {Q : Option Value → Shared → Prop} (hh : A.handled = none) (D : ZipApart z TI TO i1 i2 l1 l2)
    (hz : IsZipHeld s.heap z TI TO T f) (hT : s.heap.get? T = some oT) (hTI : IsPair s.heap TI (.ref i1) (.ref i2))
    (h1 : s.heap.IsTupleIter i1 l1 k1) (h2 : s.heap.IsTupleIter i2 l2 k2) (hl1 : s.heap.IsTuple l1 xs) (hl2 : s.heap.IsTuple l2 ys) (hend : xs[k1]? = none ∨ ys[k2]? = none)
    (hQ : ∀ h', (∀ c o, c ≠ z → c ≠ i1 → c ≠ i2 → s.heap.get? c = some o → h'.get? c = some o) → Q none { s with heap := h' }) : wpAny (model prog w) A (pyNext (.ref z)) Q E s := by
  have hTy : s.TypeIs (.ref z) "zip" := ⟨_, hz, rfl⟩
  unfold pyNext
  refine wpAny_bind (wpAny_attempt (wpAny_callSpecial?_slot (name := Str.ofString "__next__") hTy F.slot_zip_next
    (wpAny_call_entry F.slot_zip_next hTy F.entry_zip_next (zipT_next_end_held hh D hz hT hTI h1 h2 hl1 hl2 hend fun h' e hk he => ?_) (F.args_zip_next_1 _))))
  obtain ⟨o, ho, hc⟩ := he
  refine wpAny_bind (wpAny_isInstance (T := "StopIteration") (b := true) ⟨o, ho, hc⟩ isSubtype_stop ?_)
  exact wpAny_pure (hQ _ hk)

end
section
variable {prog : Program} {w : World}
theorem pairArg_zipT (z TI TO i1 i2 l1 l2 : Addr) (D : ZipApart z TI TO i1 i2 l1 l2) (xs ys : Array Value) :
    PairArg prog w "zip" z [z, TI, TO, i1, i2, l1, l2] [z, TO, i1, i2] (min xs.size ys.size) (fun i k v => xs[i]? = some k ∧ ys[i]? = some v)
      (fun h => IsZip h z TI TO .none ∧ IsPair h TI (.ref i1) (.ref i2) ∧ (∃ a b, IsPair h TO a b) ∧ h.IsTupleIter i1 l1 0 ∧ h.IsTupleIter i2 l2 0 ∧ h.IsTuple l1 xs ∧ h.IsTuple l2 ys) where
  type := fun s ok => ⟨_, ok.1, rfl⟩
  notDict := by decide
  keep := fun h h' ok hk => by
    obtain ⟨hz, hTI, ⟨a, b, hTO⟩, h1, h2, hl1, hl2⟩ := ok
    exact ⟨hk _ _ hz, hk _ _ hTI, ⟨a, b, hk _ _ hTO⟩, h1.at fun o e => hk _ o e, h2.at fun o e => hk _ o e, hl1.at fun o e => hk _ o e, hl2.at fun o e => hk _ o e⟩
  there := fun h ok b hb => by
    obtain ⟨hz, hTI, ⟨a, c, hTO⟩, ⟨o1, h1, _⟩, ⟨o2, h2, _⟩, ⟨o3, hl1, _⟩, ⟨o4, hl2, _⟩⟩ := ok
    simp only [List.mem_cons, List.not_mem_nil, or_false] at hb
    rcases hb with rfl | rfl | rfl | rfl | rfl | rfl | rfl
    all_goals first | exact ⟨_, hz⟩ | exact ⟨_, hTI⟩ | exact ⟨_, hTO⟩ | exact ⟨_, h1⟩ | exact ⟨_, h2⟩ | exact ⟨_, hl1⟩ | exact ⟨_, hl2⟩
  sub := fun b hb => by simp at hb ⊢; rcases hb with rfl | rfl | rfl | rfl <;> simp
  noKeys := fun A s Q E hA ok h => getAttrOr_miss_zip ok.1 rfl rfl rfl zip_no_keys (by decide +kernel) hA h
  iter := fun A s d Q E hA ok hd hdf h => by
    obtain ⟨hz, hTI, ⟨a, b, hTO⟩, h1, h2, hl1, hl2⟩ := ok
    simp only [List.mem_cons, List.not_mem_nil, or_false, not_or] at hdf
    obtain ⟨dz, dTI, dTO, di1, di2, dl1, dl2⟩ := hdf
    refine wpAny_pyIter_zip hz (h z [z, TO, i1, i2] (fun i h => IsPair h TI (.ref i1) (.ref i2) ∧ h.IsTupleIter i1 l1 i ∧ h.IsTupleIter i2 l2 i ∧ h.IsTuple l1 xs ∧ h.IsTuple l2 ys ∧
      ((IsZip h z TI TO .none ∧ ∃ a b, IsPair h TO a b) ∨ ∃ T f oT, IsZipHeld h z TI TO T f ∧ h.get? T = some oT ∧ T ≠ z ∧ T ≠ i1 ∧ T ≠ i2 ∧ T ≠ d)) s.heap s.toks ?_
      ⟨hTI, h1, h2, hl1, hl2, .inl ⟨hz, a, b, hTO⟩⟩ (fun _ _ e => e) fun b hb => .inl hb)
    exact {
      off := fun hm => by
        simp only [List.mem_cons, List.not_mem_nil, or_false] at hm
        rcases hm with e | e | e | e
        · exact dz e
        · exact dTO e
        · exact di1 e
        · exact di2 e
      frame := fun i h₁ h₂ st hk => by
        obtain ⟨hTI, h1, h2, hl1, hl2, hz⟩ := st
        refine ⟨hk _ _ (Ne.symm dTI) hTI, h1.at fun o e => hk _ o (Ne.symm di1) e, h2.at fun o e => hk _ o (Ne.symm di2) e, hl1.at fun o e => hk _ o (Ne.symm dl1) e, hl2.at fun o e => hk _ o (Ne.symm dl2) e, ?_⟩
        rcases hz with ⟨hz, a, b, hTO⟩ | ⟨T, f, oT, hz, hT, r1, r2, r3, r4⟩
        · exact .inl ⟨hk _ _ (Ne.symm dz) hz, a, b, hk _ _ (Ne.symm dTO) hTO⟩
        · exact .inr ⟨T, f, oT, hk _ _ (Ne.symm dz) hz, hk _ _ r4 hT, r1, r2, r3, r4⟩
      item := fun i s₁ Q₁ E₁ hi st hds hQ => by
        obtain ⟨hTI, h1, h2, hl1, hl2, hz⟩ := st
        have hix : i < xs.size := Nat.lt_of_lt_of_le hi (Nat.min_le_left ..)
        have hiy : i < ys.size := Nat.lt_of_lt_of_le hi (Nat.min_le_right ..)
        have ex := Array.getElem?_eq_getElem hix
        have ey := Array.getElem?_eq_getElem hiy
        have lt : ∀ {c o}, s₁.heap.get? c = some o → s₁.heap.objs.size ≠ c := fun e => Nat.ne_of_gt (Heap.lt_size e)
        have n1 : s₁.heap.objs.size ≠ i1 := let ⟨_, e, _⟩ := h1; lt e
        have n2 : s₁.heap.objs.size ≠ i2 := let ⟨_, e, _⟩ := h2; lt e
        rcases hz with ⟨hz, a, b, hTO⟩ | ⟨T, f, oT, hz, hT, r1, r2, r3, r4⟩
        · refine pyNext_zipT_item D hz hTI hTO h1 h2 hl1 hl2 ex ey fun h' a1 a2 a3 a4 a5 a6 hk => ?_
          exact hQ s₁.heap.objs.size _ _ h' s₁.toks ⟨ex, ey⟩ (.inl ⟨_, a5, rfl, _, rfl⟩)
            ⟨hk _ _ D.TIz D.TITO D.TIi1 D.TIi2 hTI, a3, a4, hl1.at fun o e => hk _ o D.l1z D.l1TO D.l1i1 D.l1i2 e, hl2.at fun o e => hk _ o D.l2z D.l2TO D.l2i1 D.l2i2 e,
              .inr ⟨s₁.heap.objs.size, false, _, a1, a5, lt hz, n1, n2, Nat.ne_of_gt hds⟩⟩
            fun c o hc e => hk c o (fun x => hc (by simp [x])) (fun x => hc (by simp [x])) (fun x => hc (by simp [x])) (fun x => hc (by simp [x])) e
        · refine pyNext_zipT_item_held D hz hT hTI h1 h2 hl1 hl2 ex ey fun h' a1 a3 a4 a5 a6 hk => ?_
          exact hQ s₁.heap.objs.size _ _ h' s₁.toks ⟨ex, ey⟩ (.inl ⟨_, a5, rfl, _, rfl⟩)
            ⟨hk _ _ D.TIz D.TIi1 D.TIi2 hTI, a3, a4, hl1.at fun o e => hk _ o D.l1z D.l1i1 D.l1i2 e, hl2.at fun o e => hk _ o D.l2z D.l2i1 D.l2i2 e,
              .inr ⟨T, true, oT, a1, hk _ _ r1 r2 r3 hT, r1, r2, r3, r4⟩⟩
            fun c o hc e => hk c o (fun x => hc (by simp [x])) (fun x => hc (by simp [x])) (fun x => hc (by simp [x])) e
      done := fun s₁ Q₁ E₁ st hQ => by
        obtain ⟨hTI, h1, h2, hl1, hl2, hz⟩ := st
        have hend : xs[min xs.size ys.size]? = none ∨ ys[min xs.size ys.size]? = none := by
          rcases Nat.le_total xs.size ys.size with h | h
          · exact .inl (Array.getElem?_eq_none (by rw [Nat.min_eq_left h]; exact Nat.le_refl _))
          · exact .inr (Array.getElem?_eq_none (by rw [Nat.min_eq_right h]; exact Nat.le_refl _))
        rcases hz with ⟨hz, a, b, hTO⟩ | ⟨T, f, oT, hz, hT, r1, r2, r3, r4⟩
        · exact pyNext_zipT_end hA D hz hTI hTO h1 h2 hl1 hl2 hend fun h' hk => hQ h' s₁.toks fun c o hc e => hk c o (fun x => hc (by simp [x])) (fun x => hc (by simp [x])) (fun x => hc (by simp [x])) (fun x => hc (by simp [x])) e
        · exact pyNext_zipT_end_held hA D hz hT hTI h1 h2 hl1 hl2 hend fun h' hk => hQ h' s₁.toks fun c o hc e => hk c o (fun x => hc (by simp [x])) (fun x => hc (by simp [x])) (fun x => hc (by simp [x])) e }

end
/-- dict(zip(a, b)): the texts of a as keys, the items of b as values -/
def rDictZip (K : PySem.W.Frag) : List V → Hp → VK → Prop := fun vs H Q => ∃ (a b : Addr) (kvs : List (Key × V)), vs = [.ref a, .ref b] ∧ SqT K H a (kvs.map fun kv => kV kv.1) ∧ SqT K H b (kvs.map (·.2)) ∧ ∀ p, H p = none → Q (.ref p) (upd H p (.dK (mergeK [] kvs)))
theorem zip_vals {its its2 : List Value} : ∀ {kvs : List (Key × V)}, Vals (kvs.map fun kv => kV kv.1) its → Vals (kvs.map (·.2)) its2 → ∃ prs, KV kvs prs ∧ its.length = kvs.length ∧ its2.length = kvs.length ∧ ∀ (P : Program) (w : World) (i : Nat) k v, its[i]? = some k → its2[i]? = some v → ∃ key, prs[i]? = some (key, v) ∧ (mixKind P w).is key k = true
  | [], h1, h2 => by
    cases h1; cases h2
    exact ⟨[], .nil, rfl, rfl, fun P w i k v e => by cases e⟩
  | kv :: kvs, h1, h2 => by
    rw [List.map_cons] at h1 h2
    cases h1 with
    | cons a1 t1 =>
      cases h2 with
      | cons a2 t2 =>
        obtain ⟨prs, p1, p2, p3, p4⟩ := zip_vals t1 t2
        refine ⟨(kv.1, _) :: prs, .cons ⟨rfl, a2⟩ p1, by simp [p2], by simp [p3], fun P w i k v e1 e2 => ?_⟩
        cases i with
        | zero => cases e1; cases e2; exact ⟨kv.1, rfl, kV_is a1⟩
        | succ i => exact p4 P w i k v (by simpa using e1) (by simpa using e2)
section
variable (K : PySem.W.Frag) {X : Cx} {ta : TA} {a b : Expr} {p p2 q q2 : Pos}
theorem pe_dictZip (T : Bt X.mg) (hcalm : X.calm = true) (ha : PA X [a, b] ta) (e : X.K = K := by rfl) (hg : Gl X "dict" := by rfl) (hg2 : Gl X "zip" := by rfl) (hs : starEach [a, b] X.env = (false, eval a X.env) :: starEach [b] X.env := by rfl)
    (hpl : (backTo q2 (starEach [b] X.env)).any (·.1) = false := by rfl) (hs2 : starEach [.Call (.Name "zip" p2) [a, b] [] q2] X.env = (false, eval (.Call (.Name "zip" p2) [a, b] [] q2) X.env) :: starEach [] X.env := by rfl) :
    PE X (.Call (.Name "dict" p) [.Call (.Name "zip" p2) [a, b] [] q2] [] q) (tCB (rDictZip K) ta) := by
  subst e
  refine ⟨fun pins s σ H Q I h => ?_⟩
  refine Call_ (ld_blt I hg T.dict boot_dict (PyProof.Rows.callWith_type1 ?_ hs2 rfl))
  refine Calls.spliced_cons ?_
  refine Call_ (ld_blt I hg2 T.zip PyProof.Rows.boot_zip (PyProof.Rows.callWith_type1 (thn (ha.run q2 pins s σ H _ I h) fun us s1 ⟨vs, H1, I1, r1, q1⟩ => ?_) hs hpl))
  obtain ⟨a1, a2, kvs, ex, hqx, hqy, q⟩ := q1
  subst ex
  obtain ⟨u1, u2, rfl, r1, r2⟩ := vals2 r1
  cases r1
  cases r2
  obtain ⟨its, rv, p1, hz1⟩ := I1.tuple hqx
  obtain ⟨its2, rv2, p2', hz2⟩ := I1.tuple hqy
  obtain ⟨o1, ho1, _⟩ := id p1
  obtain ⟨o2, ho2, _⟩ := id p2'
  refine call_zipT (show s1.heap.IsTuple a1 its.toArray from p1) (show s1.heap.IsTuple a2 its2.toArray from p2') fun h' hz hTI hTO h1 h2 hsz hk => ?_
  refine Calls.spliced_nil ?_
  have I2 : Inv X pins σ H1 { s1 with heap := h' } := I1.kept (t' := s1.toks) hk
  obtain ⟨prs, k1, l1, l2, k2⟩ := zip_vals rv rv2
  have hmin : min its.toArray.size its2.toArray.size = kvs.length := by
    rw [List.size_toArray, List.size_toArray, l1, l2]; exact Nat.min_self _
  have hlen : kvs.length ≤ sizeLine := by simpa using hz1
  refine PySem.call_dict_pairs (s := { s1 with heap := h' }) (knd := mixKind X.prog X.w) (kvs := prs) (pairArg_zipT (s1.heap.objs.size + 4) (s1.heap.objs.size + 2) (s1.heap.objs.size + 3) s1.heap.objs.size (s1.heap.objs.size + 1) a1 a2
      (PySem.W.ktu_apart s1.heap.objs.size a1 a2 (Heap.lt_size ho1) (Heap.lt_size ho2)) its.toArray its2.toArray) (I1.ok.hd hcalm)
    ⟨hz, hTI, ⟨_, _, hTO⟩, h1, h2, Heap.IsTuple.at p1 fun o e => hk _ o e, Heap.IsTuple.at p2' fun o e => hk _ o e⟩ ⟨?_, fun i k v e => ?_⟩ (by rw [hmin]; exact hlen) fun h2' tk hd' kk => ?_
  · rw [hmin]
    exact k1.length.symm
  · exact k2 X.prog X.w i k v (by simpa using e.1) (by simpa using e.2)
  · have fr : ∀ c ∈ [s1.heap.objs.size + 4, s1.heap.objs.size + 3, s1.heap.objs.size, s1.heap.objs.size + 1], FpOk X pins H1 c := fun c hc => by
      have hle : s1.heap.objs.size ≤ c := by
        simp only [List.mem_cons, List.not_mem_nil, or_false] at hc
        rcases hc with z | z | z | z <;> (rw [z]; first | exact Nat.le_add_right _ _ | exact Nat.le_refl _)
      exact I1.fpOk hle (I1.hok.fresh hle)
    have hm : (h'.objs.size == sysModules) = false := beq_eq_false_iff_ne.mpr (Nat.ne_of_gt I2.big)
    have hlen2 : (mergeK [] kvs).length ≤ sizeLine := Nat.le_trans (length_mergeK kvs []) (by rw [List.length_nil, Nat.zero_add]; exact hlen)
    exact ⟨.ref h'.objs.size, upd H1 h'.objs.size (.dK (mergeK [] kvs)), I2.turnedNew (t' := tk) (ch := [s1.heap.objs.size + 4, s1.heap.objs.size + 3, s1.heap.objs.size, s1.heap.objs.size + 1]) (fun b o hb e => kk b o hb e) fr (Nat.le_refl _)
      (show ObjOk X.prog X.w _ _ _ (.dK (mergeK [] kvs)) from ⟨hlen2, hm, merged [] prs, KV.merge k1 .nil, hd'⟩), rfl, q _ (I2.hok.fresh (Nat.le_refl _))⟩
end
end G3
end

/-! ## G3GenFor -/
section
set_option Elab.async false
set_option linter.all false
set_option maxRecDepth 100000
set_option maxHeartbeats 4000000
/-! for in a generator's body. -/
namespace G3
open PySem PySem.Spec PyProof.Rows L2 GenW
/-- W by the turn, a measure, what is out -/
def tGFor (wi : TI) (g : TG) (tb : TGn) : TGn := fun D ys σ H => wi σ H fun J H1 => ∃ W : Nat → Nat → List V → L2.St → Hp → Prop, (∃ m, W 0 m ys σ H1) ∧ ∀ i m ys σ H, W i m ys σ H →
  (J.stop i H ∧ D.nx ys σ H) ∨ (J.go i H ∧ ∃ N : List V → L2.St → Hp → Prop, (∀ ys' σ' H', N ys' σ' H' → ∃ m', m' < m ∧ W (i + 1) m' ys' σ' H') ∧ ∀ x H', J.yld i H x H' → g x σ H' fun σ2 H2 => tb { D with nx := N, ct := N, bk := D.nx } ys σ2 H2)
section
variable {X : Cx} {tg iter : Expr} {body : List Stmt} {pos : Pos} {wi : TI} {g : TG} {tb : TGn}
theorem gs_for (hp : PassesOwn (model X.prog X.w) X.A X.env X.xe) (hc : X.calm = true) (hi : PI X tg iter wi) (hg : PG X tg g) (hb : GSs X body tb) (hs : ∀ x, foldedSetIterable iter X.env x = pure x := by intro _; rfl) : GS X (.For tg iter body [] pos) (tGFor wi g tb) := by
  refine ⟨fun A S ip R n ys s₀ c fs K J gd lv s σ H D gc hn k hI ht => ?_⟩
  obtain ⟨acc, cc, r, I⟩ := hI
  rw [exec_For]
  refine seg_bind_wrap (wpAny_standAt ?_)
  refine seg_bind_wrap ?_
  rw [gc.over]
  refine wpAny_mono (hi.run _ s σ H _ I ht) (fun v s1 h1 => ?_) fun x s' hx => k.exc n s₀ x s' hx
  refine seg_bind_wrap (wpAny_of_eq (hs v) ?_)
  refine seg_bind_wrap (wpAny_standAt ?_)
  refine seg_bind_wrap (wpAny_holding ?_)
  rw [gc.over]
  refine wpAny_mono h1 (fun itv s2 h2 => ?_) fun x s' hx => k.exc n s₀ x s' hx
  obtain ⟨it, fp, tn, Jt, H2, e, I2, T, st2, f2, W, ⟨m0, w0⟩, turn⟩ := h2
  subst e
  refine seg_call fun p => ?_
  have gl := fun (kk : Result → Sem PySem.Fin) => gc_loop (k := kk) (c' := .forLoop tg (.ref it) body [] X.env) (l := lv []) (kp := []) (p := p) gc rfl rfl
  have hfS : ∀ b ∈ fp, b ≠ S := fun b hb e => (f2 b hb).2.2.2.2.2 (S, lstObj acc cc) (List.mem_append_right _ List.mem_cons_self) e.symm
  have loop : ∀ (m i n : Nat) (ys : List V) (s₀ s : Shared) (σ : L2.St) (H : Hp), n + ys.length = sizeLine → W i m ys σ H → GI X S ip ys σ H s → tn i s.heap → (∀ b ∈ fp, H b = none) →
      Seg (model X.prog X.w) A R (GY X S) n s₀ (.forLoop tg (.ref it) body [] X.env) ((model X.prog X.w).den (.forLoop tg (.ref it) body [] X.env))
        (.ret (fun r => ((match r with | .ok f => (.pure f : Sem Flow) | .error e => .raise e).onRaise (cameBack X.env)).wrap K J gd lv) none (gd false) (lv []) c p [] :: fs) s := by
    intro m
    induction m using Nat.strongRecOn with
    | ind m ih =>
      intro i n ys s₀ s σ H hn w hI st fr
      have ee : ∀ (n : Nat) (s₀ : Shared) (x : Value) (s' : Shared), X.xe x s' → Seg (model X.prog X.w) A R (GY X S) n s₀ (.forLoop tg (.ref it) body [] X.env)
          ((do noteFrame x X.env; theTreesLotGoes x : Sem Unit).wrap (fun _ => .raise x) .raise id id)
          (.ret (fun r => ((match r with | .ok f => (.pure f : Sem Flow) | .error e => .raise e).onRaise (cameBack X.env)).wrap K J gd lv) none (gd false) (lv []) c p [] :: fs) s' := fun n s₀ x s' hx => by
        refine seg_wrap ?_
        rw [(gl _).over]
        refine wpAny_bind (wpAny_mono (hp x s' hx) (fun _ s'' hcb => wpAny_theTreesLotGoes ?_) fun y s'' hcb => ?_)
        · exact seg_leaf (.error x) (seg_cameBack gc k hcb)
        · exact seg_leaf (.error y) (seg_cameBack gc k hcb)
      have stat : ∀ {pins : List (Addr × Obj)} {σ' : L2.St} {H' : Hp} {s' : Shared}, Inv X pins σ' H' s' → (∀ q ∈ pins, q ∈ (S, lstObj acc cc) :: ip ∨ q.1 = S) → (∀ b ∈ fp, H' b = none) → ∀ b ∈ fp, FpOk X pins H' b := fun {pins σ' H' s'} I' hsub hn b hb => by
        obtain ⟨_, q1, q2, q3, q4, q5⟩ := f2 b hb
        refine ⟨hn b hb, q1, q2, q3, q4, fun q hq => ?_⟩
        rcases List.mem_append.mp hq with hq | hq
        · exact q5 q (List.mem_append_left _ hq)
        · rcases hsub q hq with hq | hq
          · exact q5 q (List.mem_append_right _ hq)
          · rw [hq]; exact (hfS b hb).symm
      show Seg _ A R _ n s₀ _ ((forTurn tg (.ref it) body [] X.env).onRaise (fun x => do noteFrame x X.env; theTreesLotGoes x)) _ s
      unfold forTurn
      rw [Sem.onRaise_eq_wrap]
      refine seg_bind_wrap (wpAny_standAt ?_)
      refine seg_bind_wrap ?_
      rw [(gl _).over]
      obtain ⟨acc', cc', r', I'⟩ := hI
      have I'' := I'
      have fpo := stat I' (fun q hq => by
        rcases List.mem_cons.mp hq with e | hq
        · exact .inr (by rw [e])
        · exact .inl (List.mem_cons_of_mem _ hq)) fr
      rcases turn i m ys σ H w with ⟨stop, qn⟩ | ⟨go, N, hN, step⟩
      · refine wpAny_onRaise (wpAny_mono (T.done X rfl rfl rfl hc i _ s σ H (fun _ _ => False) I' fpo st stop) (fun r0 s4 hr4 => ?_) fun _ _ h => h.elim)
        obtain ⟨hr, I4⟩ := hr4
        subst hr
        refine seg_again rfl ?_
        exact seg_leaf (.ok .next) (k.ok n ys s₀ s4 .next hn ⟨σ, H, ⟨acc', cc', r', I4⟩, qn⟩)
      · refine wpAny_onRaise (wpAny_mono (T.item X rfl rfl rfl hc i _ s σ H (fun _ _ => False) I' fpo st go) (fun r0 s4 hr4 => ?_) fun _ _ h => h.elim)
        obtain ⟨u, hr, h4⟩ := hr4
        subst hr
        refine seg_bind_wrap ?_
        rw [(gl _).over]
        refine wpAny_mono h4 (fun _ s5 h5 => ?_) fun _ _ h => h.elim
        obtain ⟨x, H5, I5, r5, y5, st5, fr5⟩ := h5
        have I5' := I5.pinned (stat I5 (fun q hq => by
          rcases List.mem_cons.mp hq with e | hq
          · exact .inr (by rw [e])
          · exact .inl (List.mem_cons_of_mem _ hq)) fr5) (T.obj _ _ st5)
        have hee := ee
        refine seg_bind_wrap ?_
        rw [(gl _).over]
        refine wpAny_mono (hg.run _ s5 σ H5 x u _ I5' r5 (step x H5 y5)) (fun _ s6 h6 => ?_) fun x s' hx => ?_
        · obtain ⟨σ6, H6, I6, q6⟩ := h6
          rw [Sem.bind_eq_wrap', Sem.wrap_wrap]
          have gl' := gl (fun r => ((match r with | .ok f => (.pure f : Sem Flow) | .error e => .raise e).onRaise (cameBack X.env)).wrap K J gd lv)
          refine hb.run A S (ip ++ pinsAt fp s5.heap) R n ys s₀ _ _ _ _ (fun g => id (id g)) (fun l => id (id l)) s6 σ6 H6 { D with nx := N, ct := N, bk := D.nx } ⟨gl'.pn, fun q hq => ?_, gl'.apart, gl'.over, gl'.split, gl'.guard, rfl⟩ hn ⟨fun n' ys' s₀' s7 f hn' hs => ?_, fun n' s₀' x s7 hx => ?_⟩ ⟨acc', cc', r', I6⟩ q6
          · rcases List.mem_append.mp hq with hq | hq
            · exact gc.ip q hq
            · exact hfS _ (of_pinsAt hq).1
          · have back : ∀ {σ7 : L2.St} {H7 : Hp}, GI X S (ip ++ pinsAt fp s5.heap) ys' σ7 H7 s7 → GI X S ip ys' σ7 H7 s7 ∧ tn (i + 1) s7.heap ∧ ∀ b ∈ fp, H7 b = none := fun {σ7 H7} ⟨a7, c7, r7, I7⟩ => by
              refine ⟨⟨a7, c7, r7, Inv.unpinned (pins := (S, lstObj a7 c7) :: ip) (pl := pinsAt fp s5.heap) I7⟩, T.keep _ _ _ st5 fun b hb o e => (I7.pin (b, o) (List.mem_append_right _ (List.mem_cons_of_mem _ (List.mem_append_right _ (mem_pinsAt hb e))))).1, fun b hb => ?_⟩
              obtain ⟨o, e, d⟩ := T.obj _ _ st5 b hb
              exact (I7.pin (b, o) (List.mem_append_right _ (List.mem_cons_of_mem _ (List.mem_append_right _ (mem_pinsAt hb e))))).2.1
            cases f with
            | next =>
              obtain ⟨σ7, H7, I7, n7⟩ := hs
              obtain ⟨m', hm, w7⟩ := hN ys' σ7 H7 n7
              obtain ⟨b1, b2, b3⟩ := back I7
              exact seg_again rfl (ih m' hm (i + 1) n' ys' s₀' s7 σ7 H7 hn' w7 b1 b2 b3)
            | cont =>
              obtain ⟨σ7, H7, I7, n7⟩ := hs
              obtain ⟨m', hm, w7⟩ := hN ys' σ7 H7 n7
              obtain ⟨b1, b2, b3⟩ := back I7
              exact seg_again rfl (ih m' hm (i + 1) n' ys' s₀' s7 σ7 H7 hn' w7 b1 b2 b3)
            | brk =>
              obtain ⟨σ7, H7, I7, q7⟩ := hs
              exact seg_leaf (.ok .next) (k.ok n' ys' s₀' s7 .next hn' ⟨σ7, H7, (back I7).1, q7⟩)
            | ret v7 =>
              obtain ⟨x7, σ7, H7, I7, r7, q7⟩ := hs
              exact seg_leaf (.ok (.ret v7)) (k.ok n' ys' s₀' s7 (.ret v7) hn' ⟨x7, σ7, H7, (back I7).1, r7, q7⟩)
          · have := ee n' s₀' x s7 hx
            rw [← Sem.bind_eq_wrap] at this
            exact this
        · have := ee n s₀ x s' hx
          rw [← Sem.bind_eq_wrap] at this
          exact this
  exact loop m0 0 n ys s₀ s2 σ H2 hn w0 ⟨acc, cc, r, I2⟩ st2 (fun b hb => (f2 b hb).1)
end
end G3
end

/-! ## G3EnumT -/
section
set_option Elab.async false
set_option linter.all false
set_option maxRecDepth 100000
set_option maxHeartbeats 4000000
/-! enumerate of a tuple. -/
namespace G3
open PySem PySem.Spec PyProof.Rows L2
theorem meets_enumT {v : Value} {o : Obj} {H : Heap → Prop} (B : Begins v o H) :
    Meets (Builtin.«enumerate.__new__» ⟨[.type "enumerate", v], []⟩) (fun _ R s => H s.heap ∧
      R (.ok (.ret (.ref (s.heap.push o).objs.size))) { s with heap := (s.heap.push o).push { cls := .type "enumerate", data := .fields #[.none, .bool false, .ref s.heap.objs.size, rawInt 0, .none, .none] } }) :=
  .of_wp fun prog w A R s h => by
    obtain ⟨hp, g, d, tk, os⟩ := s; obtain ⟨h1, h⟩ := h
    have hsub := sub_enumerate
    have q1 : ∀ {A' : Around} {E : Value → Shared → Prop} {Q : Value → Shared → Prop}, Q (.ref hp.objs.size) ⟨hp.push o, g, d, tk, os⟩ → wpAny (model prog w) A' (pyIter v) Q E ⟨hp, g, d, tk, os⟩ :=
      fun q => B.iter prog w _ _ ⟨hp, g, d, tk, os⟩ _ h1 q
    wp_walk using q1
    refine wpAny_stack_any fun st => wpAny_pure ?_
    split
    · rename_i c _ _ _ _ _
      cases (c == Value.type "enumerate")
      · wp_walk using q1
        exact ⟨_, rfl, h⟩
      · wp_walk using q1
        exact ⟨_, rfl, h⟩
    · wp_walk using q1
      exact ⟨_, rfl, h⟩
section
variable {prog : Program} {w : World} {A : Around} {E : Value → Shared → Prop} {s : Shared}
theorem call_enumT {v : Value} {o : Obj} {H : Heap → Prop} {Q : Value → Shared → Prop} (B : Begins v o H) (h1 : H s.heap)
    (h : ∀ h', IsEnum h' (s.heap.objs.size + 1) s.heap.objs.size 0 .none → h'.get? s.heap.objs.size = some o → h'.objs.size = s.heap.objs.size + 2 →
      (∀ b o, s.heap.get? b = some o → h'.get? b = some o) → Q (.ref (s.heap.objs.size + 1)) { s with heap := h' }) :
    wpAny (model prog w) A (call (.type "enumerate") [v]) Q E s := by
  refine callType_new F.called_enumerate (by decide) (F.typeCall_enumerate_1 _) (F.newCall_enumerate_1 _) (fun obj => F.args_object_init_2 obj _) F.entry_enumerate_new
    (meets_enumT B) ⟨h1, ?_⟩
  have hz : (s.heap.push o).objs.size = s.heap.objs.size + 1 := Heap.size_push ..
  show _ ∧ _
  rw [hz]
  have he : IsEnum ((s.heap.push o).push { cls := .type "enumerate", data := .fields #[.none, .bool false, .ref s.heap.objs.size, rawInt 0, .none, .none] }) (s.heap.objs.size + 1) s.heap.objs.size 0 .none := by
    have := Heap.get?_push_size (s.heap.push o) (o := { cls := .type "enumerate", data := .fields #[.none, .bool false, .ref s.heap.objs.size, rawInt 0, .none, .none] }) rfl
    rw [hz] at this; exact this
  refine ⟨⟨_, he, rfl⟩, h _ he (Heap.get?_push_of_some _ (Heap.get?_push_size _ B.free)) (by rw [Heap.size_push, hz]) fun b o x => Heap.get?_push_of_some _ (Heap.get?_push_of_some _ x)⟩
end
/-- the tuple at a as it stands at each turn, each item in a new pair -/
def IteT (K : PySem.W.Frag) (a : Addr) : It :=
  ⟨fun i H => ∃ (xs : List V) (x : V), SqT K H a xs ∧ xs[i]? = some x, fun i H v H' => ∃ T x, v = .ref T ∧ H T = none ∧ H' = upd H T (.tup [.int (i : Nat), x]) ∧ ∀ xs, SqT K H a xs → xs[i]? = some x, fun i H => ∃ xs : List V, SqT K H a xs ∧ xs.length ≤ i⟩
theorem turn_enumT {P : Program} {w : World} {K : PySem.W.Frag} {elts : List Expr} {kk : Nat} {tpos : Pos} (a e it : Addr) :
    Turn P w K (.Tuple elts kk tpos) (IteT K a) [e, it] e (fun i h => (∃ old, IsEnum h e it ((i : Nat) : Int) old) ∧ h.IsTupleIter it a i ∧ e ≠ it) where
  mem := by simp
  obj := fun i h st b hb => by
    obtain ⟨⟨old, he⟩, ⟨o, ho, hc, hd⟩, _⟩ := st
    have e' : b = e ∨ b = it := by simpa using hb
    rcases e' with z | z
    · rw [z]; exact ⟨_, he, fun v q => nomatch q⟩
    · rw [z]; exact ⟨o, ho, fun v q => by rw [hd] at q; cases q⟩
  keep := fun i h h' st k => let ⟨⟨old, he⟩, hi, hne⟩ := st; ⟨⟨old, k e (by simp) _ he⟩, hi.at fun o q => k it (by simp) o q, hne⟩
  item := by
    intro X hP hw hK hc i pins s σ H E I hf st hg
    subst hP hw hK
    obtain ⟨⟨old, he⟩, hit, hne⟩ := st
    obtain ⟨xs, x, hq, hx⟩ := hg
    obtain ⟨its, rv, p, hz⟩ := I.tuple hq
    obtain ⟨u, hu, ru⟩ := rv.get hx
    have hel : e < s.heap.objs.size := Heap.lt_size he
    have hil : it < s.heap.objs.size := by obtain ⟨_, q, _⟩ := hit; exact Heap.lt_size q
    have hai : a ≠ it := fun q => by
      obtain ⟨o1, g1, c1, _⟩ := id p
      obtain ⟨o2, g2, c2, _⟩ := id hit
      rw [q, g2] at g1; cases g1
      rw [c2] at c1; exact absurd (Value.type.inj c1) (by decide)
    have hea : e ≠ a := fun q => by
      obtain ⟨o1, g1, c1, _⟩ := id p
      rw [← q, he] at g1; cases g1
      exact absurd (Value.type.inj c1) (by decide)
    refine wpAny_pyNext_enum_itemD (Draws.tuple (prog := X.prog) (w := X.w) (A := X.A.in1) (I.ok.hd hc) it a hai its.toArray) he ⟨hit, p⟩ (by have := (List.getElem?_eq_some_iff.mp hu).1; simpa using this) hne (by simp [hne, hea]) fun v0 h' tk hP ho hit' hT hsz hk => ?_
    have ev : v0 = u := by
      have e1 : its.toArray[i]? = some v0 := hP
      rw [List.getElem?_toArray, hu] at e1
      exact (Option.some.inj e1).symm
    subst ev
    refine ⟨_, rfl, wpAny_letOwnedTupleGo_enum (s := { s with heap := h', toks := tk + 1 }) ho fun h'' he' sb => ?_⟩
    have hT2 : h''.get? s.heap.objs.size = some { cls := .type "tuple", data := .seq #[.int i tk, v0] } := (sb.2 _ (Nat.ne_of_gt hel)).trans hT
    have new : ObjOk X.prog X.w (upd H s.heap.objs.size (.tup [.int (i : Nat), x])) h'' s.heap.objs.size (.tup [.int (i : Nat), x]) :=
      ⟨by show 2 ≤ sizeLine; decide, [.int i tk, v0], .cons ⟨_, rfl⟩ (.cons ru .nil), ⟨_, hT2, rfl, _, rfl⟩⟩
    have I1 : Inv X pins σ (upd H s.heap.objs.size (.tup [.int (i : Nat), x])) { s with heap := h'', toks := tk + 1 } :=
      I.turnedNew (ch := [e, it]) (fun b ob hb q => (sb.2 b (fun z => hb (by simp [z]))).trans (hk b ob (fun z => hb (by simp [z])) (fun z => hb (by simp [z])) q)) hf (Nat.le_refl _) new
    refine ⟨.ref s.heap.objs.size, _, I1, rfl, ⟨_, x, rfl, I.hok.fresh (Nat.le_refl _), rfl, fun ys hy => by rw [I.tuple_inj hy hq]; exact hx⟩, ⟨⟨v0, ?_⟩, hit'.1.at fun o q => (sb.2 it (Ne.symm hne)).trans q, hne⟩, fun b hb => ?_⟩
    · have e1 : ((i + 1 : Nat) : Int) = (i : Int) + 1 := by omega
      rw [e1]; exact he'
    · have hb' : b < s.heap.objs.size := by
        have e' : b = e ∨ b = it := by simpa using hb
        rcases e' with z | z
        · rw [z]; exact hel
        · rw [z]; exact hil
      rw [upd_ne (Nat.ne_of_lt hb')]
      exact (hf b hb).1
  done := by
    intro X hP hw hK hc i pins s σ H E I hf st hg
    subst hP hw hK
    obtain ⟨⟨old, he⟩, hit, hne⟩ := st
    obtain ⟨xs, hq, hx⟩ := hg
    obtain ⟨its, rv, p, hz⟩ := I.tuple hq
    obtain ⟨f0, f1, f2, f3, f4, f5⟩ := hf it (by simp)
    have hl := rv.length
    have hnone : its.toArray[i]? = none := by simp; omega
    have hh : X.A.in1.handled = none := I.ok.hd hc
    have hT : s.TypeIs (.ref e) "enumerate" := ⟨_, he, rfl⟩
    unfold pyNext
    refine wpAny_bind (wpAny_attempt (wpAny_callSpecial?_slot (name := Str.ofString "__next__") hT F.slot_enumerate_next
      (wpAny_call_entry F.slot_enumerate_next hT F.entry_enumerate_next ?_ (F.args_enumerate_next_1 _))))
    show wpAny _ _ (field (.ref e) 2 >>= _) _ _ _
    refine wpAny_bind (wpAny_field he rfl (x := .ref it) rfl ?_)
    refine wpAny_bind (RZ.nextOf_tuple_end hh hit p hnone fun h' x he' hx' => ?_)
    obtain ⟨o, ho, hc'⟩ := hx'
    refine wpAny_bind (wpAny_isInstance (T := "StopIteration") (b := true) ⟨o, ho, hc'⟩ isSubtype_stop ?_)
    exact wpAny_pure ⟨rfl, I.turned (t' := s.toks) (fun b o hb q => he' b o hb q) f0 f1 f3 f4 f5⟩
  self := fun A i s Q E st h => let ⟨⟨_, he⟩, _⟩ := st; wpAny_pyIter_enum he h
def iEnumT (K : PySem.W.Frag) (ta : TA) : TI := fun σ H R => ta σ H fun vs H1 => ∃ a xs, vs = [.ref a] ∧ SqT K H1 a xs ∧ R (IteT K a) H1
theorem pi_enumT (K : PySem.W.Frag) {X : Cx} {e : Expr} {ta : TA} {p pos tpos : Pos} {elts : List Expr} {kk : Nat} (hg : Gl X "enumerate") (hm : X.mg "enumerate" = none) (ha : PA X [e] ta) (hs : starEach [e] X.env = [(false, eval e X.env)] := by rfl) (eK : X.K = K := by rfl) :
    PI X (.Tuple elts kk tpos) (.Call (.Name "enumerate" p) [e] [] pos) (iEnumT K ta) := by
  subst eK
  refine ⟨fun pins s σ H R I h => ?_⟩
  refine Call_ (ld_blt I hg hm boot_enumerate (PyProof.Rows.callWith_type1 (thn (ha.run pos pins s σ H _ I h) fun us s1 ⟨vs, H1, I1, r1, q1⟩ => ?_) hs rfl))
  obtain ⟨a, xs, ex, hq, q⟩ := q1
  subst ex
  cases r1 with
  | cons r rr =>
    cases rr
    cases r
    obtain ⟨its, rv, p', hz⟩ := I1.tuple hq
    refine call_enumT (begins_tuple a its.toArray) p' fun h' he hit hsz hk => wpAny_pyIter_enum he ?_
    have I2 : Inv X pins σ H1 { s1 with heap := h' } := I1.kept (t' := s1.toks) hk
    refine ⟨s1.heap.objs.size + 1, [s1.heap.objs.size + 1, s1.heap.objs.size], _, _, H1, rfl, I2, turn_enumT a (s1.heap.objs.size + 1) s1.heap.objs.size, ⟨⟨.none, he⟩, ⟨_, hit, rfl, rfl⟩, Nat.succ_ne_self _⟩, fun b hb => ?_, q⟩
    have e' : b = s1.heap.objs.size + 1 ∨ b = s1.heap.objs.size := by simpa using hb
    have hle : s1.heap.objs.size ≤ b := by
      rcases e' with z | z
      · rw [z]; exact Nat.le_add_right _ _
      · rw [z]; exact Nat.le_refl _
    exact I1.fpOk hle (I1.hok.fresh hle)
end G3
end

/-! ## G3TupIx -/
section
set_option Elab.async false
set_option linter.all false
set_option maxRecDepth 100000
set_option maxHeartbeats 4000000
/-! tuples that are known to have no namespace: made by tuple(a list); t.index(a text). -/
namespace G3
open PySem PySem.Spec PyProof.Rows L2
def TupF (H : Hp) (v : V) (xs : List V) : Prop := ∃ a o, v = .ref a ∧ H a = some (.frz o (.tup xs)) ∧ o.dict = none
theorem TupF.tup {H H' : Hp} {v : V} {xs : List V} (h : TupF H v xs) (k : TupS H H') : TupF H' v xs := by
  obtain ⟨a, o, e1, e2, e3⟩ := h
  exact ⟨a, o, e1, k _ _ e2 rfl, e3⟩
/-- tuple(a list), kept as it is -/
def tTupF (K : PySem.W.Frag) (te : TE) : TE := fun σ H Q => te σ H fun x H1 => ∃ p ys, x = .ref p ∧ SqL K H1 p ys ∧ ∀ a o, H1 a = none → o.dict = none → Q (.ref a) (upd H1 a (.frz o (.tup ys)))
section
variable {X : Cx} {K : PySem.W.Frag} {a : Expr} {ta : TE} {p q : Pos}
theorem eTupF (K : PySem.W.Frag) (T : Bt X.mg) (ha : PE X a ta) (e : X.K = K := by rfl) (hg : Gl X "tuple" := by rfl) (hs : starEach [a] X.env = (false, eval a X.env) :: starEach [] X.env := by rfl) : PE X (.Call (.Name "tuple" p) [a] [] q) (tTupF K ta) := by
  subst e
  have hr : CallR X (.type "tuple") (fun xs H Q => ∃ p ys, xs = [.ref p] ∧ SqL X.K H p ys ∧ ∀ a o, H a = none → o.dict = none → Q (.ref a) (upd H a (.frz o (.tup ys)))) := by
    intro pins s σ H xs us Q I r h
    obtain ⟨p, ys, rfl, hq, q⟩ := h
    obtain ⟨u, rfl, rx⟩ := vals1 r
    cases rx
    obtain ⟨its, r', pl, hz⟩ := I.list hq
    have hlen := r'.length
    refine call_tuple_list pl.isList (fun h' kp => ?_) (by simp only [List.size_toArray]; omega)
    have I1 : Inv X pins σ H { s with heap := h' } := I.kept (t' := s.toks) kp
    have I2 : Inv X pins σ (upd H h'.objs.size (.frz { cls := .type "tuple", data := .seq its.toArray } (.tup ys))) { s with heap := h'.push { cls := .type "tuple", data := .seq its.toArray } } :=
      I1.laid (t' := s.toks) (fun b o e => Heap.get?_push_of_some _ e) (Nat.le_refl _) (show ObjOk X.prog X.w _ _ _ (.frz _ (.tup ys)) from ⟨Heap.get?_push_size _ rfl, hz, its, r', IsTup.new _ _⟩)
    exact ⟨.ref h'.objs.size, _, I2, rfl, q _ _ (I1.hok.fresh (Nat.le_refl _)) rfl⟩
  have := pe_callTy (p := p) (pos := q) hr hg T.tuple boot_tuple (pa_cons ha pa_nil hs) (by decide) (by decide) hs
  refine ⟨fun pins s σ H Q I h => this.run pins s σ H Q I ?_⟩
  have h' : ta σ H fun x H1 => ∃ p ys, x = .ref p ∧ SqL X.K H1 p ys ∧ ∀ a o, H1 a = none → o.dict = none → Q (.ref a) (upd H1 a (.frz o (.tup ys))) := h
  show ta σ H fun x H1 => ∃ p ys, [x] = [V.ref p] ∧ _
  have e : (fun (x : V) (H1 : Hp) => ∃ p ys, x = V.ref p ∧ SqL X.K H1 p ys ∧ ∀ a o, H1 a = none → o.dict = none → Q (.ref a) (upd H1 a (.frz o (.tup ys)))) = fun x H1 => ∃ p ys, [x] = [V.ref p] ∧ SqL X.K H1 p ys ∧ ∀ a o, H1 a = none → o.dict = none → Q (.ref a) (upd H1 a (.frz o (.tup ys))) := by
    funext x H1
    refine propext ⟨fun ⟨p, ys, e1, e2⟩ => ⟨p, ys, by rw [e1], e2⟩, fun ⟨p, ys, e1, e2⟩ => ⟨p, ys, (List.cons.inj e1).1, e2⟩⟩
  exact e ▸ h'
end
/-- t.index(x) of texts that are all different -/
def rTupIx : V → List V → Hp → VK → Prop := fun x vs H Q => ∃ (xs : List Str) (z : Str) (j : Nat), vs = [.str z] ∧ TupF H x (xs.map V.str) ∧ xs[j]? = some z ∧ xs.Nodup ∧ Q (.int j) H
def tTupIx (to te : TE) : TE := fun σ H Q => to σ H fun x H1 => (∃ xs, TupF H1 x xs) ∧ tCons te tNil σ H1 fun vs H2 => rTupIx x vs H2 Q
section
variable {X : Cx} {o e : Expr} {to te : TE} {apos cpos : Pos}
theorem mt_tupIx : MtR X "tuple.index" rTupIx := by
  intro pins s σ H x vs v us Q I rx rv h
  obtain ⟨xs, z, j, rfl, ⟨a, ob, rfl, hf, hd⟩, hj, nd, q⟩ := h
  cases rx
  obtain ⟨u, rfl, ru⟩ := rv.one
  obtain ⟨tk, rfl⟩ := ru
  obtain ⟨e0, hz, its, r, ⟨o2, e1, hc, n, hdat⟩⟩ := I.hok a _ hf
  have eo : ob = o2 := Option.some.inj (e0.symm.trans e1)
  subst eo
  obtain ⟨cls, dd, data, sls⟩ := ob
  simp only at hc hdat hd
  subst hc hdat hd
  have hl := r.length
  rw [List.length_map] at hl
  have hjl : j < xs.length := (List.getElem?_eq_some_iff.mp hj).1
  have at_ : ∀ (m : Nat) (hm : m < its.toArray.size), ∃ t, its.toArray[m] = .str (xs[m]'(by simp at hm; omega)) t := fun m hm => by
    have hm' : m < xs.length := by simp at hm; omega
    obtain ⟨w, hw, rw'⟩ := r.get (show (xs.map V.str)[m]? = some (V.str xs[m]) by rw [List.getElem?_map, List.getElem?_eq_getElem hm']; rfl)
    obtain ⟨t, rfl⟩ := rw'
    have hm2 : m < its.length := by omega
    rw [List.getElem?_eq_getElem hm2] at hw
    exact ⟨t, by simpa using Option.some.inj hw⟩
  refine call_meets PySem.F.slot_tuple_index ⟨_, e0, rfl⟩ PySem.F.entry_tuple_index (PySem.F.args_tuple_index_2 _ _)
    (PySem.SeqAt.tuple_index2_found a its.toArray n none sls (.str z tk) (fun m => decide (xs[m]? = some z)) j (by simp; omega) (Nat.zero_le _) (by simp; omega) (decide_eq_true hj) (fun m hm _ hmj => ?_)) ⟨e0, fun m hm => ?_, ?_⟩
  · refine decide_eq_false fun hm2 => ?_
    have := (List.getElem?_inj (by simp at hm; omega) nd).mp (hm2.trans hj.symm)
    omega
  · obtain ⟨t, et⟩ := at_ m hm
    have hm' : m < xs.length := by simp at hm; omega
    rw [et, List.getElem?_eq_getElem hm']
    have e2 : decide (some xs[m] = some z) = (xs[m] == z) := by
      rw [Bool.eq_iff_iff]; simp
    rw [e2]
    exact SeqAt.EqAt.str_str _ _ _ _
  · exact ⟨.int j, H, I.tok _, ⟨_, rfl⟩, q⟩
theorem pe_tupIx (ho : PE X o to) (he : PE X e te) (hbase : attributeBase o "index" X.env (eval o X.env) = eval o X.env := by rfl)
    (hfew : ((backTo cpos (starEach [e] X.env)).all (fun x => !x.1) && (backToKw cpos (keywordEach [] X.env)).all (fun x => x.1.isSome)
      && decide (([e] : List Expr).length + ([] : List Keyword).length + (if ([] : List Keyword).isEmpty then 0 else 1) < 30)) = true := by rfl)
    (hline : (apos.endLine == cpos.line) = true := by rfl) (hs : starEach [e] X.env = (false, eval e X.env) :: starEach [] X.env := by rfl) (hplain : (backTo cpos (starEach [] X.env)).any (·.1) = false := by rfl) :
    PE X (.Call (.Attribute o "index" apos) [e] [] cpos) (tTupIx to te) := by
  refine ⟨fun pins s σ H Q I h => ?_⟩
  refine wpAny_Call_method_late hbase hfew hline rfl (thn (ho.run pins s σ H _ I h) fun v s1 ⟨x, H1, I1, r1, ⟨xs, a, ob, ex, hf, hd⟩, q1⟩ => ?_)
  subst ex
  cases r1
  obtain ⟨e0, hz, its, rv, ⟨o2, e1, hc, n, hdat⟩⟩ := I1.hok a _ hf
  have eo : ob = o2 := Option.some.inj (e0.symm.trans e1)
  subst eo
  refine ⟨"tuple", "tuple.index", PySem.F.plainAttrs_tuple, PySem.F.slot_tuple_index, PySem.F.type_tuple_index, ⟨ob, e0, hc⟩, fun b eb => by cases eb; exact ⟨ob, e0, hd⟩, ?_⟩
  have hA := (pa_cons he pa_nil hs).run cpos pins s1 σ H1 _ I1 q1
  rw [hs] at hA ⊢
  refine Calls.callWith_builtin (by show (false || (backTo cpos (starEach [] X.env)).any (·.1)) = false; rw [hplain]; rfl) (Calls.evalArgs_plain ?_)
  exact thn hA fun us s2 ⟨vs, H2, I2, r2, q2⟩ => mt_tupIx pins s2 σ H2 (.ref a) vs _ us Q I2 rfl r2 q2
end
end G3
end

/-! ## G3State -/
section
set_option Elab.async false
set_option linter.all false
set_option maxRecDepth 100000
set_option maxHeartbeats 4000000
local macro_rules | `(tactic| walk_at "nf") => `(tactic| simp only [L2.tRet, L2.tRetN, L2.tAndV, L2.tOrV, L2.tNotV, L2.tCB, L2.tCons, L2.tNil, L2.tVar, L2.tC, L2.tDIn, L2.tDNotIn, L2.tDGet, L2.tOp, L2.tUn, L2.tTest, L2.tB, L2.tIf, L2.tIfS, L2.tAnd, L2.tOr, L2.tNot, L2.tSeq, L2.tAsg, L2.gName, L2.tDrop, L2.tNext, L2.tCall, L2.tTup, L2.tLst, L2.tBM, L2.tBM0, L2.tSl, L2.tPart, L2.tNoPart, L2.sDPut, L2.tFld, L2.sFld, L2.tMeth, L2.tYes, L2.gTup, L2.gCons, L2.gNil, L2.tIsN, L2.tNotN, L2.tPar, L2.tPar3, L2.tDNewK, L2.tDisp, L2.tPairs, L2.tDGet1, StX.tStar, L2.tGThen, L2.tG0, L2.tPlain, L2.GEnds.at, L2.tGYield, L2.tCallG, L2.tListG, G3.tTupIx, G3.dcT_op, G3.tFrz, G3.dcI_frz, G3.lcI_frz, G3.lcY_frz, G3.lcI_call, G3.lcT_lit, G3.forT_lit, G3.lcL_call, G3.lcL_op, G3.lcL_dget, G3.lcT_call, G3.lcT_op, G3.lcT_dget, G3.forL_call, G3.forL_op, G3.forL_dget, G3.forT_call, G3.forT_op, G3.forT_dget, G3.ex_l1, G3.ex_l2, G3.ex_l3,
  G3.start_eq, G3.cxOf_K, G3.wipe_nil, G3.wipe_cons, List.map_cons, List.map_nil, List.nil_append, List.cons_append, List.append_nil, List.getElem?_cons_zero, List.getElem?_cons_succ, List.set_cons_zero, List.set_cons_succ, List.set_nil, List.length_cons, List.length_nil, List.replicate, Option.some.injEq, G3.ex_eq, Nat.reduceAdd, Nat.reduceSub, Nat.zero_add, List.replicate_succ, List.replicate_zero, true_and, if_true, if_false, Bool.false_eq_true, Nat.add_zero, Int.add_zero])
namespace G3
open PySem PySem.Spec PyProof.Rows L2

/-! ### states, in plain Lean -/
abbrev State := List Str
abbrev Log := List (Str × Str)
structure StOk (n : Net) (c : Cat) (st : State) : Prop where
  len : st.length = n.1.length
  sub : ∀ r ∈ st, r ∈ c.map (·.1)
def look (n : Net) (st : State) (s : Str) : Option Str := gv (n.1.zip st) s
def Valid (n : Net) (c : Cat) (st : State) : Prop := ∀ p ∈ n.2, ∀ a b, look n st p.1 = some a → look n st p.2 = some b → b ∈ mates c a
def Free (n : Net) (c : Cat) (st : State) (s r : Str) : Prop := ∀ z, (s, z) ∈ n.2 ∨ (z, s) ∈ n.2 → ∀ y, look n st z = some y → y ∈ mates c r
structure Repl (n : Net) (c : Cat) (st : State) (p : Str × Str) (st' : State) : Prop where
  at_ : ∃ i, n.1[i]? = some p.1 ∧ st' = st.set i p.2
  rel : p.2 ∈ c.map (·.1)
  free : Free n c st p.1 p.2
def Runs (n : Net) (c : Cat) : State → Log → State → Prop
  | st, [], st' => st' = st
  | st, p :: l, st' => ∃ st1, Repl n c st p st1 ∧ Runs n c st1 l st'
theorem StOk.set {n : Net} {c : Cat} {st : State} {i : Nat} {r : Str} (h : StOk n c st) (hr : r ∈ c.map (·.1)) : StOk n c (st.set i r) := by
  refine ⟨by rw [List.length_set]; exact h.len, fun a ha => ?_⟩
  rcases List.mem_or_eq_of_mem_set ha with ha | rfl
  · exact h.sub a ha
  · exact hr
theorem Repl.ok {n : Net} {c : Cat} {st st' : State} {p : Str × Str} (r : Repl n c st p st') (h : StOk n c st) : StOk n c st' := by
  obtain ⟨i, _, rfl⟩ := r.at_
  exact h.set r.rel
theorem Runs.ok {n : Net} {c : Cat} : ∀ {l : Log} {st st' : State}, Runs n c st l st' → StOk n c st → StOk n c st'
  | [], st, st', r, h => by rw [show st' = st from r]; exact h
  | p :: l, st, st', ⟨st1, r1, r2⟩, h => Runs.ok r2 (r1.ok h)
theorem Runs.snoc {n : Net} {c : Cat} {p : Str × Str} : ∀ {l : Log} {st st1 st2 : State}, Runs n c st l st1 → Repl n c st1 p st2 → Runs n c st (l ++ [p]) st2
  | [], st, st1, st2, r, h => by rw [show st1 = st from r] at h; exact ⟨st2, h, rfl⟩
  | q :: l, st, st1, st2, ⟨s1, r1, r2⟩, h => ⟨s1, r1, Runs.snoc r2 h⟩
theorem Runs.app {n : Net} {c : Cat} {m : Log} : ∀ {l : Log} {st st1 st2 : State}, Runs n c st l st1 → Runs n c st1 m st2 → Runs n c st (l ++ m) st2
  | [], st, st1, st2, r, h => by rw [show st1 = st from r] at h; exact h
  | q :: l, st, st1, st2, ⟨s1, r1, r2⟩, h => ⟨s1, r1, Runs.app r2 h⟩
theorem Runs.rel {n : Net} {c : Cat} : ∀ {l : Log} {st st' : State}, Runs n c st l st' → ∀ p ∈ l, p.1 ∈ n.1 ∧ p.2 ∈ c.map (·.1)
  | [], st, st', r, p, hp => nomatch hp
  | q :: l, st, st', ⟨s1, r1, r2⟩, p, hp => by
    rcases List.mem_cons.mp hp with e | hp
    · rw [e]
      obtain ⟨i, h1, _⟩ := r1.at_
      exact ⟨List.mem_of_getElem? h1, r1.rel⟩
    · exact Runs.rel r2 p hp
/-- by the place -/
theorem look_at {n : Net} (nd : n.1.Nodup) {st : State} (hl : st.length = n.1.length) {i : Nat} {s : Str} (h : n.1[i]? = some s) : look n st s = st[i]? := by
  have hi : i < n.1.length := (List.getElem?_eq_some_iff.mp h).1
  have hi2 : i < st.length := by omega
  have hz : (n.1.zip st)[i]? = some (s, st[i]) := by
    rw [List.getElem?_zip_eq_some]
    exact ⟨h, List.getElem?_eq_getElem hi2⟩
  unfold look
  rw [List.getElem?_eq_getElem hi2]
  refine gv_mem ?_ (List.mem_of_getElem? hz)
  rw [List.map_fst_zip (by omega)]
  exact nd
theorem look_some {n : Net} {c : Cat} (nd : n.1.Nodup) {st : State} (hl : st.length = n.1.length) {s : Str} (h : s ∈ n.1) : ∃ a, look n st s = some a ∧ a ∈ st := by
  obtain ⟨i, hi, e⟩ := List.getElem_of_mem h
  have e2 : n.1[i]? = some s := by rw [List.getElem?_eq_getElem hi, e]
  have hi2 : i < st.length := by omega
  rw [look_at nd hl e2, List.getElem?_eq_getElem hi2]
  exact ⟨_, rfl, List.getElem_mem hi2⟩
theorem look_set {n : Net} (nd : n.1.Nodup) {st : State} (hl : st.length = n.1.length) {i : Nat} {s r : Str} (h : n.1[i]? = some s) (z : Str) (hz : z ∈ n.1) : look n (st.set i r) z = if z = s then some r else look n st z := by
  obtain ⟨j, hj, e⟩ := List.getElem_of_mem hz
  have e2 : n.1[j]? = some z := by rw [List.getElem?_eq_getElem hj, e]
  have hi : i < n.1.length := (List.getElem?_eq_some_iff.mp h).1
  rw [look_at nd (by rw [List.length_set]; exact hl) e2, look_at nd hl e2, List.getElem?_set]
  by_cases hij : i = j
  · subst hij
    rw [h] at e2
    rw [if_pos rfl, if_pos (by omega), if_pos (Option.some.inj e2).symm]
  · rw [if_neg hij, if_neg (fun q => hij ?_)]
    have hi2 : n.1[i] = s := by rw [List.getElem?_eq_getElem hi] at h; exact Option.some.inj h
    exact (List.getElem_inj (h₀ := hi) (h₁ := hj) nd).mp (by rw [hi2, e, q])
/-- what stays valid -/
theorem Repl.valid {n : Net} {c : Cat} {st st' : State} {p : Str × Str} (ok : NetOk n) (co : CatOk c) (r : Repl n c st p st') (h : StOk n c st) (v : Valid n c st) : Valid n c st' := by
  obtain ⟨i, hi, rfl⟩ := r.at_
  intro q hq a b ha hb
  obtain ⟨k1, k2, k3⟩ := ok.tk q hq
  rw [look_set ok.nd h.len hi _ k1] at ha
  rw [look_set ok.nd h.len hi _ k2] at hb
  by_cases e1 : q.1 = p.1
  · rw [if_pos e1] at ha
    cases ha
    rw [if_neg (fun e2 => k3 (e1.trans e2.symm))] at hb
    exact r.free q.2 (.inl (by rw [← e1]; exact hq)) b hb
  · rw [if_neg e1] at ha
    by_cases e2 : q.2 = p.1
    · rw [if_pos e2] at hb
      cases hb
      have := r.free q.1 (.inr (by rw [← e2]; exact hq)) a ha
      exact mates_sym co r.rel this
    · rw [if_neg e2] at hb
      exact v q hq a b ha hb
theorem Runs.valid {n : Net} {c : Cat} (ok : NetOk n) (co : CatOk c) : ∀ {l : Log} {st st' : State}, Runs n c st l st' → StOk n c st → Valid n c st → Valid n c st'
  | [], st, st', r, h, v => by rw [show st' = st from r]; exact v
  | p :: l, st, st', ⟨st1, r1, r2⟩, h, v => Runs.valid ok co r2 (r1.ok h) (r1.valid ok co h v)
/-! ### the walk -/
abbrev NetD (H : Hp) (n : Net) (v : V) : Prop := NetAt H n v ∧ ∃ p x y, v = .ref p ∧ Rd H p (.tup [x, y]) ∧ TupF H x (n.1.map V.str)
theorem NetD.tup {H H' : Hp} {n : Net} {v : V} (h : NetD H n v) (k : TupS H H') : NetD H' n v := by
  obtain ⟨h1, p, x, y, e1, e2, e3⟩ := h
  exact ⟨h1.tup k, p, x, y, e1, rd_tup e2 k, e3.tup k⟩
abbrev sIsState : Stmt := top 34
abbrev sConflicts : Stmt := top 35
abbrev sIsValid : Stmt := top 36
abbrev sInTheWay : Stmt := top 37
abbrev sBlockers : Stmt := top 38
abbrev sChanged : Stmt := top 39
abbrev sIsReplacement : Stmt := top 40
abbrev sIsSchedule : Stmt := top 41
abbrev sCheckSchedule : Stmt := top 42
theorem scIS : FnScope ["network", "catalog", "value", "release"] ["network", "catalog", "value"] (defScope sIsState) := ⟨rfl, rfl, rfl, by decide +kernel, rfl, by decide +kernel, by decide +kernel⟩
theorem scConf : FnScope ["network", "catalog", "state", "running", "talk"] ["network", "catalog", "state"] (defScope sConflicts) := ⟨rfl, rfl, rfl, by decide +kernel, rfl, by decide +kernel, by decide +kernel⟩
theorem scIV : FnScope ["network", "catalog", "value"] ["network", "catalog", "value"] (defScope sIsValid) := ⟨rfl, rfl, rfl, by decide +kernel, rfl, by decide +kernel, by decide +kernel⟩
theorem scITW : FnScope ["network", "catalog", "state", "service", "release", "running", "fitting", "other"] ["network", "catalog", "state", "service", "release"] (defScope sInTheWay) := ⟨rfl, rfl, rfl, by decide +kernel, rfl, by decide +kernel, by decide +kernel⟩
theorem scBl : FnScope ["network", "catalog", "state", "service", "release"] ["network", "catalog", "state", "service", "release"] (defScope sBlockers) := ⟨rfl, rfl, rfl, by decide +kernel, rfl, by decide +kernel, by decide +kernel⟩
theorem scCh : FnScope ["network", "state", "service", "release", "at"] ["network", "state", "service", "release"] (defScope sChanged) := ⟨rfl, rfl, rfl, by decide +kernel, rfl, by decide +kernel, by decide +kernel⟩
theorem scIR : FnScope ["network", "catalog", "value"] ["network", "catalog", "value"] (defScope sIsReplacement) := ⟨rfl, rfl, rfl, by decide +kernel, rfl, by decide +kernel, by decide +kernel⟩
theorem scISch : FnScope ["network", "catalog", "value", "replacement"] ["network", "catalog", "value"] (defScope sIsSchedule) := ⟨rfl, rfl, rfl, by decide +kernel, rfl, by decide +kernel, by decide +kernel⟩
theorem scCSch : FnScope ["network", "catalog", "value"] ["network", "catalog", "value"] (defScope sCheckSchedule) := ⟨rfl, rfl, rfl, by decide +kernel, rfl, by decide +kernel, by decide +kernel⟩
def spIsState : Sp := fun vs H Q _ => ∃ (n : Net) (c : Cat) (st : State) (vn vc v : V), vs = [vn, vc, v] ∧ NetAt H n vn ∧ CatAt H c vc ∧ CatOk c ∧ At H st v ∧ StOk n c st ∧ st.length ≤ 1000 ∧ ∀ H', Same H H' → Q (.bl true) H'
def spConflicts : Sp := fun vs H Q _ => ∃ (n : Net) (c : Cat) (st : State) (vn vc v : V), vs = [vn, vc, v] ∧ NetAt H n vn ∧ CatAt H c vc ∧ CatOk c ∧ NetOk n ∧ At H st v ∧ StOk n c st ∧ Valid n c st ∧ ∀ p H', Same H H' → At H' ([] : Log) (.ref p) → Q (.ref p) H'
def spIsValid : Sp := fun vs H Q _ => ∃ (n : Net) (c : Cat) (st : State) (vn vc v : V), vs = [vn, vc, v] ∧ NetAt H n vn ∧ CatAt H c vc ∧ CatOk c ∧ NetOk n ∧ At H st v ∧ StOk n c st ∧ Valid n c st ∧ ∀ H', Same H H' → Q (.bl true) H'
def spInTheWay : Sp := fun vs H Q _ => ∃ (n : Net) (c : Cat) (st : State) (s r : Str) (vn vc v : V), vs = [vn, vc, v, .str s, .str r] ∧ NetAt H n vn ∧ CatAt H c vc ∧ CatOk c ∧ NetOk n ∧ At H st v ∧ StOk n c st ∧ s ∈ n.1 ∧ r ∈ c.map (·.1) ∧
  ∀ p (l : List Str) H', Same H H' → At H' l (.ref p) → (∀ a ∈ l, Enc.ok a) → (l = [] ↔ Free n c st s r) → Q (.ref p) H'
def spChanged : Sp := fun vs H Q _ => ∃ (n : Net) (st : State) (i : Nat) (s r : Str) (vn v : V), vs = [vn, v, .str s, .str r] ∧ NetD H n vn ∧ NetOk n ∧ At H st v ∧ st.length = n.1.length ∧ n.1[i]? = some s ∧ ∀ p H', Same H H' → At H' (st.set i r) (.ref p) → Q (.ref p) H'
def spIsReplacement : Sp := fun vs H Q _ => ∃ (n : Net) (c : Cat) (s r : Str) (vn vc v : V), vs = [vn, vc, v] ∧ NetAt H n vn ∧ CatAt H c vc ∧ CatOk c ∧ At H (s, r) v ∧ s ∈ n.1 ∧ r ∈ c.map (·.1) ∧ ∀ H', Same H H' → Q (.bl true) H'
def spIsSchedule : Sp := fun vs H Q _ => ∃ (n : Net) (c : Cat) (l : Log) (vn vc v : V), vs = [vn, vc, v] ∧ NetAt H n vn ∧ CatAt H c vc ∧ CatOk c ∧ At H l v ∧ (∀ p ∈ l, p.1 ∈ n.1 ∧ p.2 ∈ c.map (·.1)) ∧ l.length ≤ 400 ∧ ∀ H', Same H H' → Q (.bl true) H'
def spCheckSchedule : Sp := fun vs H Q _ => ∃ (n : Net) (c : Cat) (l : Log) (vn vc v : V), vs = [vn, vc, v] ∧ NetAt H n vn ∧ CatAt H c vc ∧ CatOk c ∧ At H l v ∧ (∀ p ∈ l, p.1 ∈ n.1 ∧ p.2 ∈ c.map (·.1)) ∧ l.length ≤ 400 ∧ ∀ H', Same H H' → Q .non H'
theorem small64' {n : Nat} (h : n ≤ 40) : n < sizeLine := Nat.lt_of_le_of_lt h (by decide)
theorem all_true {α : Type} (l : List α) : (l.map fun _ => true).all id = true := by simp
theorem r_dictZ {K : PySem.W.Frag} {H : Hp} {ks xs : List Str} {v w : V} {Q : VK} (h1 : At H ks v) (h2 : At H xs w) (hl : xs.length = ks.length) (nd : ks.Nodup) (q : ∀ p, H p = none → Q (.ref p) (upd H p (.dK (strK V.str (ks.zip xs))))) : rDictZip K [v, w] H Q := by
  obtain ⟨p, rfl, hp⟩ := at_strs.mp h1
  obtain ⟨p2, rfl, hp2⟩ := at_strs.mp h2
  have e1 : (strK V.str (ks.zip xs)).map (fun kv => kV kv.1) = ks.map V.str := by
    unfold strK
    rw [List.map_map]
    show (ks.zip xs).map (fun p => V.str p.1) = _
    have : (ks.zip xs).map (fun p => V.str p.1) = ((ks.zip xs).map (·.1)).map V.str := by rw [List.map_map]; rfl
    rw [this, List.map_fst_zip (by omega)]
  have e2 : (strK V.str (ks.zip xs)).map (·.2) = xs.map V.str := by
    rw [strK_vals, List.map_snd_zip (by omega)]
  refine ⟨p, p2, strK V.str (ks.zip xs), rfl, by rw [e1]; exact .inl hp, by rw [e2]; exact .inl hp2, fun a ha => ?_⟩
  rw [merge_nd (strK V.str (ks.zip xs)) [] ?_, List.nil_append]
  · exact q a ha
  · rw [List.nil_append, strK_keys]
    have : (ks.zip xs).map (fun p => (Sum.inr p.1 : Key)) = ks.map fun a => (Sum.inr a : Key) := by
      have e3 : (ks.zip xs).map (fun p => (Sum.inr p.1 : Key)) = ((ks.zip xs).map (·.1)).map fun a => (Sum.inr a : Key) := by rw [List.map_map]; rfl
      rw [e3, List.map_fst_zip (by omega)]
    rw [this]
    exact nodup_inr nd
theorem r_slTake {K : PySem.W.Frag} {H : Hp} {xs : List Str} {v : V} {k : Nat} {Q : VK} (h : At H xs v) (q : ∀ p H', Same H H' → SqT K H' p ((xs.take k).map V.str) → Q (.ref p) H') : rSlA K v none (some (k : Int)) H Q := by
  obtain ⟨a, rfl, ha⟩ := at_strs.mp h
  refine ⟨a, xs.map V.str, rfl, .inl ha, fun ⟨_, e⟩ => ?_, fun _ p hp => ?_⟩
  · rw [HT.sIx_nat, List.length_map] at e
    refine q a H (.refl _) ?_
    rw [List.take_of_length_le (by omega)]
    exact .inl ha
  · refine q p _ (.new hp) ?_
    have e : cutV (xs.map V.str) none (some (k : Int)) = (xs.take k).map V.str := by
      unfold cutV
      rw [HT.sIx_nat, HT.sIx_none, List.drop_zero, Nat.sub_zero, List.length_map, List.map_take]
      rcases Nat.le_total k xs.length with h | h
      · rw [Nat.min_eq_left h]
      · rw [Nat.min_eq_right h, List.take_of_length_le (by simp), List.take_of_length_le (by simpa using h)]
    rw [e]
    exact .of upd_same
theorem r_slDrop {K : PySem.W.Frag} {H : Hp} {xs : List Str} {v : V} {k : Nat} {Q : VK} (h : At H xs v) (q : ∀ p H', Same H H' → SqT K H' p ((xs.drop k).map V.str) → Q (.ref p) H') : rSlA K v (some (k : Int)) none H Q := by
  obtain ⟨a, rfl, ha⟩ := at_strs.mp h
  refine ⟨a, xs.map V.str, rfl, .inl ha, fun ⟨e, _⟩ => ?_, fun _ p hp => ?_⟩
  · rw [HT.sIx_nat, List.length_map] at e
    refine q a H (.refl _) ?_
    have e2 : xs.drop k = xs := by
      rcases Nat.le_total k xs.length with h | h
      · rw [Nat.min_eq_left h] at e; rw [e]; rfl
      · rw [Nat.min_eq_right h] at e
        have : xs = [] := List.eq_nil_of_length_eq_zero e
        rw [this]; simp
    rw [e2]
    exact .inl ha
  · refine q p _ (.new hp) ?_
    have e : cutV (xs.map V.str) (some (k : Int)) none = (xs.drop k).map V.str := by
      unfold cutV
      rw [HT.sIx_nat, HT.sIx_none, List.length_map, List.map_drop]
      rcases Nat.le_total k xs.length with h | h
      · rw [Nat.min_eq_left h, List.take_of_length_le (by simp)]
      · rw [Nat.min_eq_right h, Nat.sub_self, List.take_zero, List.drop_of_length_le (by simpa using h)]
    rw [e]
    exact .of upd_same
section
variable {P : Program} {w : World} {K : PySem.W.Frag} {mg : Str → Option Value} {base : Heap}
theorem ok_is_state (T : Bt mg) (G : Df P w K mg base CX0 1 "has_release" ["catalog", "value"] spHasRelease) (F : St0 K mg "is_state" sIsState) : Df P w K mg base CX0 2 "is_state" ["network", "catalog", "value"] spIsState := by
  refine F.ok0 scIS (fun vs H Q E h => ?_) (fun _ _ _ _ _ _ us hl => match us, hl with | [_, _, _], _ => rfl) fun f cdv A outer s H vs Q E hr h => ?_
  · obtain ⟨n, c, st, vn, vc, v, rfl, _⟩ := h
    rfl
  obtain ⟨n, c, st, vn, vc, v, rfl, hn, hc, co, hst, so, hlen, q⟩ := h
  refine ⟨_, pss_cons (ps_if (PW.pt (pw_or (pt_not (pt_val (eIsi (m := "tuple") K T (pv 2) T.tuple boot_tuple))) (pw_or1 (pt_cmpR op_ne (eLen K T (pv 2)) (eLen K T (eT K (pv 0) pe_int)) (nomark _))))) (pss_one (ps_ret pe_bl)) pss_nil)
    (pss_one (ps_ret (eAll K T rfl (pe_lc (own := [("release", 3)]) (g := gName 3) rfl scIS.nd (piT K (pv 2)) (blkOk_by (by rfl)) (fun _ _ _ _ _ => pg_name (i := 3) scIS.nd rfl (Or.inl rfl)) (fun _ _ _ _ _ => pts_nil)
      (fun _ _ _ _ _ => pe_df G hr pass0 (pa_cons (pv 1) (pa_cons (pv 3) pa_nil))))))), ?_⟩
  walk_at "nf"
  refine isiTup hst ⟨_, rfl, iteF' rfl (r_lenT' hst (r_p0 hn fun w hw => r_lenT' hw ⟨rfl, _, rfl, iteF' (by rw [so.len]; simp) ?_⟩))⟩
  obtain ⟨p, xs, rfl, hp, hx⟩ := at_list.mp hst
  refine lc_tup (fun R h => ⟨_, rfl, h⟩) (l := st) ⟨.inl hp, hx⟩ RAt stab_at (fun _ => true) (fun _ => true) (small1000 hlen) (fun r y H2 R hr' s2 hy kp dr => ?_) fun D ys H2 hD s2 hD' hp' => ?_
  · rw [at_str.mp hy]
    refine ⟨rfl, ?_⟩
    walk_at "nf"
    exact ⟨c, vc, r, rfl, hc.same s2, co.nd, fun H' s' => by rw [decide_eq_true (so.sub r hr')]; exact kp _ _ s' rfl rfl⟩
  · refine r_all hD' hp' ?_
    rw [all_true]
    exact q _ s2
theorem ok_conflicts (T : Bt mg) (G : Df P w K mg base CX0 1 "mates" ["catalog", "name"] spMates) (F : St0 K mg "conflicts" sConflicts) : Df P w K mg base CX0 2 "conflicts" ["network", "catalog", "state"] spConflicts := by
  refine F.ok0 scConf (fun vs H Q E h => ?_) (fun _ _ _ _ _ _ us hl => match us, hl with | [_, _, _], _ => rfl) fun f cdv A outer s H vs Q E hr h => ?_
  · obtain ⟨n, c, st, vn, vc, v, rfl, _⟩ := h
    rfl
  obtain ⟨n, c, st, vn, vc, v, rfl, hn, hc, co, no, hst, so, va, q⟩ := h
  refine ⟨_, pss_cons (ps_set (i := 3) scConf.nd rfl (Or.inr rfl) (pe_dictZip K T rfl (pa_cons (eT K (pv 0) pe_int) (pa_cons (pv 2) pa_nil))))
    (pss_one (ps_ret (eTup K T (pe_lc (own := [("talk", 4)]) (g := gName 4) rfl scConf.nd (piT K (eT K (pv 0) pe_int)) (blkOk_by (by rfl)) (fun _ _ _ _ _ => pg_name (i := 4) scConf.nd rfl (Or.inl rfl))
      (fun _ _ _ _ _ => pts_one (pt_cmpR (opNotInS K) (pe_dget (hu_of hr) (pv 3) (eT K (pv 4) pe_int) (fun _ _ => rfl)) (pe_df G hr pass0 (pa_cons (pv 1) (pa_cons (pe_dget (hu_of hr) (pv 3) (eT K (pv 4) pe_int) (fun _ _ => rfl)) pa_nil))) rfl)) (fun _ _ _ _ _ => pv 4))))), ?_⟩
  walk_at "nf"
  refine r_p0 hn fun w0 hw0 => r_dictZ hw0 hst so.len no.nd fun d hd => r_p1 (hn.same (.new hd)) fun w1 hw1 => ?_
  obtain ⟨p1, xs1, rfl, hp1, hx1⟩ := at_list.mp hw1
  refine lc_tup (fun R h => h) (l := n.2) ⟨.inl hp1, hx1⟩ RAt stab_at (fun _ => false) id (small64' no.tlen) (fun t y H2 R ht s2 hy kp dr => ?_) fun D ys H2 hD s2 hD' hp' => ?_
  · obtain ⟨k1, k2, k3⟩ := no.tk t ht
    obtain ⟨a, ea, ia⟩ := look_some (c := c) no.nd so.len k1
    obtain ⟨b, eb, ib⟩ := look_some (c := c) no.nd so.len k2
    refine ⟨rfl, ?_⟩
    walk_at "nf"
    refine r_p1 (a := t.1) (b := t.2) hy fun y2 h2 => ?_
    rw [at_str.mp h2]
    refine ⟨d, _, rfl, DGet.strS (s2 _ _ upd_same) eb, r_p0 (a := t.1) (b := t.2) hy fun y1 h1 => ?_⟩
    rw [at_str.mp h1]
    refine ⟨d, _, rfl, DGet.strS (s2 _ _ upd_same) ea, c, vc, a, rfl, (hc.same (.new hd)).same s2, co, so.sub a ia, fun M H3 s3 hM hM' => r_notInLS (l := mates c a) (.of hM') ⟨_, rfl, ?_⟩⟩
    rw [decide_eq_true (va t ht a b ea eb)]
    exact iteF' rfl (dr _ s3 rfl)
  · have e : (n.2.filter fun _ => false).map (id : Str × Str → _) = [] := by simp
    rw [e] at hp'
    exact r_tupL hD' hp' fun p hp ha => q p _ (((Same.new hd).trans s2).snew hp) ha
theorem ok_is_valid (T : Bt mg) (G1 : Df P w K mg base CX0 2 "is_state" ["network", "catalog", "value"] spIsState) (G2 : Df P w K mg base CX0 2 "conflicts" ["network", "catalog", "state"] spConflicts) (F : St0 K mg "is_valid" sIsValid) : Df P w K mg base CX0 3 "is_valid" ["network", "catalog", "value"] spIsValid := by
  refine F.ok0 scIV (fun vs H Q E h => ?_) (fun _ _ _ _ _ _ us hl => match us, hl with | [_, _, _], _ => rfl) fun f cdv A outer s H vs Q E hr h => ?_
  · obtain ⟨n, c, st, vn, vc, v, rfl, _⟩ := h
    rfl
  obtain ⟨n, c, st, vn, vc, v, rfl, hn, hc, co, no, hst, so, va, q⟩ := h
  refine ⟨_, pss_one (ps_ret (pe_and (pe_df G1 hr pass0 (pa_cons (pv 0) (pa_cons (pv 1) (pa_cons (pv 2) pa_nil)))) (pe_one (pe_cmpR (opEqD K hr.units) (pe_df G2 hr pass0 (pa_cons (pv 0) (pa_cons (pv 1) (pa_cons (pv 2) pa_nil)))) (pe_tup pa_nil) rfl)))), ?_⟩
  walk_at "nf"
  have hl : st.length ≤ 1000 := by rw [so.len]; exact Nat.le_trans no.len (by decide)
  refine ⟨n, c, st, vn, vc, v, rfl, hn, hc, co, hst, so, hl, fun H1 s1 => ⟨true, rfl, iteT ⟨n, c, st, vn, vc, v, rfl, hn.same s1, hc.same s1, co, no, hst.same s1, so, va, fun p H2 s2 hp => ⟨by decide, fun t ht => r_eq (α := Log) (hp.same (.new ht)) (.new ht .nil) (fun a ha => by cases ha) (fun a ha => by cases ha) ?_⟩⟩⟩⟩
  exact q _ ((s1.trans s2).snew ht)
theorem ok_in_the_way (T : Bt mg) (G1 : Df P w K mg base CX0 1 "mates" ["catalog", "name"] spMates) (G2 : Df P w K mg base CX0 1 "neighbour_table" ["network"] spNeighbourTable) (F : St0 K mg "in_the_way" sInTheWay) : Df P w K mg base CX0 2 "in_the_way" ["network", "catalog", "state", "service", "release"] spInTheWay := by
  refine F.ok0 scITW (fun vs H Q E h => ?_) (fun _ _ _ _ _ _ us hl => match us, hl with | [_, _, _, _, _], _ => rfl) fun f cdv A outer s H vs Q E hr h => ?_
  · obtain ⟨n, c, st, s, r, vn, vc, v, rfl, _⟩ := h
    rfl
  obtain ⟨n, c, st, sv, r, vn, vc, v, rfl, hn, hc, co, no, hst, so, hs, hrl, q⟩ := h
  refine ⟨_, pss_cons (ps_asg (pe_tup (pa_cons (pe_dictZip K T rfl (pa_cons (eT K (pv 0) pe_int) (pa_cons (pv 2) pa_nil))) (pa_cons (pe_df G1 hr pass0 (pa_cons (pv 1) (pa_cons (pv 4) pa_nil))) pa_nil)))
      (pg_tup rfl (pgs_cons (pg_name (i := 5) scITW.nd rfl (Or.inr rfl)) (pgs_cons (pg_name (i := 6) scITW.nd rfl (Or.inr rfl)) pgs_nil))))
    (pss_one (ps_ret (eTup K T (pe_lc (own := [("other", 7)]) (g := gName 7) rfl scITW.nd (piL K (pe_dget (hu_of hr) (pe_df G2 hr pass0 (pa_cons (pv 0) pa_nil)) (pv 3) (fun _ _ => rfl))) (blkOk_by (by rfl)) (fun _ _ _ _ _ => pg_name (i := 7) scITW.nd rfl (Or.inl rfl))
      (fun _ _ _ _ _ => pts_one (pt_cmpR (opNotInS K) (pe_dget (hu_of hr) (pv 5) (pv 7) (fun _ _ => rfl)) (pv 6) rfl)) (fun _ _ _ _ _ => pv 7))))), ?_⟩
  walk_at "nf"
  refine r_p0 hn fun w0 hw0 => r_dictZ hw0 hst so.len no.nd fun d hd => ⟨c, vc, r, rfl, hc.same (.new hd), co, hrl, fun M H2 s2 hM hM' => ⟨by decide, fun tp htp => ?_⟩⟩
  have s3 : Same H (upd H2 tp (.tup [.ref d, .ref M])) := ((Same.new hd).trans s2).snew htp
  have kd : upd H2 tp (.tup [.ref d, .ref M]) d = some (.dK (strK V.str (n.1.zip st))) := by rw [upd_ne (ne_of_none (s2 _ _ upd_same) htp)]; exact s2 _ _ upd_same
  have kM : upd H2 tp (.tup [.ref d, .ref M]) M = some (.lst ((mates c r).map V.str)) := by rw [upd_ne (ne_of_none hM' htp)]; exact hM'
  refine ⟨tp, _, rfl, .of upd_same, rfl, _, _, rfl, _, _, rfl, rfl, n, vn, rfl, hn.same s3, no, fun D2 t H4 s4 hD2 ht nb => ?_⟩
  obtain ⟨e1, e2⟩ := nb.get hs
  obtain ⟨v1, e3, a, o, rfl, ha⟩ := ht.get e1
  have nl : (nbs t sv).length ≤ 40 := nbs_len nb no (gv_some e1)
  refine ⟨D2, _, rfl, e3, lc_list (fun R h => h) (l := nbs t sv) ⟨.inl (.inr ⟨o, ha⟩), al_str.mpr rfl⟩ RAt stab_at (fun z => !decide (((look n st z).getD ⟨#[]⟩) ∈ mates c r)) id (small64' nl) (fun z y H5 R hz s5 hy kp dr => ?_) fun D ys H5 hD s5 hD' hp' => ?_⟩
  · rw [at_str.mp hy]
    refine ⟨rfl, ?_⟩
    walk_at "nf"
    have hz1 := (e2 z).mp hz
    have hzn : z ∈ n.1 := by
      rcases hz1 with h | h
      · exact (no.tk _ h).2.1
      · exact (no.tk _ h).1
    obtain ⟨b, eb, ib⟩ := look_some (c := c) no.nd so.len hzn
    have hb : (look n st z).getD ⟨#[]⟩ = b := by rw [eb]; rfl
    rw [hb] at kp dr
    refine ⟨d, _, rfl, DGet.strS (s5 _ _ (s4 _ _ kd)) eb, r_notInLS (l := mates c r) (.of (s5 _ _ (s4 _ _ kM))) ⟨_, rfl, ?_⟩⟩
    cases e : !decide (b ∈ mates c r) with
    | true => exact iteT (kp _ _ (.refl _) e rfl)
    | false => exact iteF (dr _ (.refl _) e)
  · rw [List.map_id] at hp'
    refine r_tupL hD' hp' fun p hp ha => q p _ _ (((s3.trans s4).trans s5).snew hp) ha (fun z hz => ?_) ⟨fun h z hz y hy => ?_, fun h => ?_⟩
    · exact (nbs_ok nb no (gv_some e1) z (List.mem_filter.mp hz).1).1
    · have hm : z ∈ nbs t sv := (e2 z).mpr hz
      have hn2 : z ∉ (nbs t sv).filter fun z => !decide (((look n st z).getD ⟨#[]⟩) ∈ mates c r) := by rw [h]; simp
      rw [List.mem_filter, hy] at hn2
      simpa [hm] using hn2
    · rw [List.filter_eq_nil_iff]
      intro z hz
      have hz1 := (e2 z).mp hz
      have hzn : z ∈ n.1 := by
        rcases hz1 with h | h
        · exact (no.tk _ h).2.1
        · exact (no.tk _ h).1
      obtain ⟨b, eb, ib⟩ := look_some (c := c) no.nd so.len hzn
      rw [eb]
      simpa using h z hz1 b eb
theorem ok_blockers (G1 : Df P w K mg base CX0 2 "check_service" ["network", "value"] spCheckService) (G2 : Df P w K mg base CX0 2 "check_release" ["catalog", "value"] spCheckRelease) (G3 : Df P w K mg base CX0 2 "in_the_way" ["network", "catalog", "state", "service", "release"] spInTheWay) (F : St0 K mg "blockers" sBlockers) :
    Df P w K mg base CX0 3 "blockers" ["network", "catalog", "state", "service", "release"] spInTheWay := by
  refine F.ok0 scBl (fun vs H Q E h => ?_) (fun _ _ _ _ _ _ us hl => match us, hl with | [_, _, _, _, _], _ => rfl) fun f cdv A outer s H vs Q E hr h => ?_
  · obtain ⟨n, c, st, s, r, vn, vc, v, rfl, _⟩ := h
    rfl
  obtain ⟨n, c, st, sv, r, vn, vc, v, rfl, hn, hc, co, no, hst, so, hs, hrl, q⟩ := h
  refine ⟨_, pss_cons (ps_expr (pe_df G1 hr pass0 (pa_cons (pv 0) (pa_cons (pv 3) pa_nil)))) (pss_cons (ps_expr (pe_df G2 hr pass0 (pa_cons (pv 1) (pa_cons (pv 4) pa_nil))))
    (pss_one (ps_ret (pe_df G3 hr pass0 (pa_cons (pv 0) (pa_cons (pv 1) (pa_cons (pv 2) (pa_cons (pv 3) (pa_cons (pv 4) pa_nil)))))))))
    , ?_⟩
  walk_at "nf"
  exact ⟨n, vn, sv, rfl, hn, hs, fun H1 s1 => ⟨c, vc, r, rfl, hc.same s1, co.nd, hrl, fun H2 s2 => ⟨n, c, st, sv, r, vn, vc, v, rfl, hn.same (s1.trans s2), hc.same (s1.trans s2), co, no, hst.same (s1.trans s2), so, hs, hrl, fun p l H3 s3 => q p l H3 ((s1.trans s2).trans s3)⟩⟩⟩
theorem ok_changed (F : St0 K mg "changed" sChanged) : Df P w K mg base CX0 1 "changed" ["network", "state", "service", "release"] spChanged := by
  refine F.ok0 scCh (fun vs H Q E h => ?_) (fun _ _ _ _ _ _ us hl => match us, hl with | [_, _, _, _], _ => rfl) fun f cdv A outer s H vs Q E hr h => ?_
  · obtain ⟨n, st, i, s, r, vn, v, rfl, _⟩ := h
    rfl
  obtain ⟨n, st, i, sv, r, vn, v, rfl, hn, no, hst, hl, hi, q⟩ := h
  refine ⟨_, pss_cons (ps_set (i := 4) scCh.nd rfl (Or.inl rfl) (pe_tupIx (eT K (pv 0) pe_int) (pv 2)))
    (pss_one (ps_ret (pe_tup (StX.pa_star (pe_slice (slT K) (pv 1) po_none (po_some (pv 4))) (pa_cons (pv 3) (StX.pa_star (pe_slice (slT K) (pv 1) (po_some (pe_op op_add (pv 4) pe_int)) po_none) pa_nil)))))), ?_⟩
  walk_at "nf"
  obtain ⟨hnA, p0, x0, y0, rfl, hp0, hf0⟩ := id hn
  refine ⟨p0, _, 0, x0, rfl, rfl, .inl hp0, atI_nat (j := 0) rfl, ⟨_, hf0⟩, n.1, sv, i, rfl, hf0, hi, no.nd, (i : Int), rfl, r_slTake hst fun p1 H1 s1 h1 => ?_⟩
  refine ⟨p1, _, rfl, .inl h1, _, _, rfl, rfl, ((i : Int) + 1), rfl, ?_⟩
  refine r_slDrop (k := i + 1) (hst.same s1) fun p2 H2 s2 h2 => ?_
  have hil : i < st.length := by
    have := (List.getElem?_eq_some_iff.mp hi).1
    omega
  have hlen : st.length ≤ 10 := by rw [hl]; exact no.len
  refine ⟨p2, _, rfl, .inl h2, ?_, fun p hp => ?_⟩
  · refine Nat.le_of_lt (small1000 ?_)
    simp only [List.length_append, List.length_map, List.length_take, List.length_cons, List.length_drop]
    omega
  · have e : (st.take i).map V.str ++ V.str r :: (st.drop (i + 1)).map V.str = (st.set i r).map V.str := by
      rw [List.set_eq_take_append_cons_drop, if_pos hil]; simp
    rw [e]
    exact q p _ ((s1.trans s2).snew hp) (.new hp (al_str.mpr rfl))
theorem ok_is_replacement (T : Bt mg) (hP : ∃ t, mg "PAIR" = some (.int 2 t)) (G1 : Df P w K mg base CX0 1 "has_service" ["network", "value"] spHasService) (G2 : Df P w K mg base CX0 1 "has_release" ["catalog", "value"] spHasRelease) (F : St0 K mg "is_replacement" sIsReplacement) : Df P w K mg base CX0 2 "is_replacement" ["network", "catalog", "value"] spIsReplacement := by
  refine F.ok0 scIR (fun vs H Q E h => ?_) (fun _ _ _ _ _ _ us hl => match us, hl with | [_, _, _], _ => rfl) fun f cdv A outer s H vs Q E hr h => ?_
  · obtain ⟨n, c, s, r, vn, vc, v, rfl, _⟩ := h
    rfl
  obtain ⟨n, c, sv, r, vn, vc, v, rfl, hn, hc, co, hv, hs, hrl, q⟩ := h
  obtain ⟨tk, hP⟩ := hP
  refine ⟨_, pss_cons (ps_if (PW.pt (pw_or (pt_not (pt_val (eIsi (m := "tuple") K T (pv 2) T.tuple boot_tuple))) (pw_or1 (pt_cmpR op_ne (eLen K T (pv 2)) (pe_glob (v := .int 2) rfl hP ⟨_, rfl⟩) (nomark _))))) (pss_one (ps_ret pe_bl)) pss_nil)
    (pss_one (ps_ret (pe_and (pe_df G1 hr pass0 (pa_cons (pv 0) (pa_cons (eT K (pv 2) pe_int) pa_nil))) (pe_one (pe_df G2 hr pass0 (pa_cons (pv 1) (pa_cons (eT K (pv 2) pe_int) pa_nil))))))), ?_⟩
  walk_at "nf"
  refine isiPair hv ⟨_, rfl, iteF' rfl ?_⟩
  obtain ⟨p, x, y, rfl, hp, hx, hy⟩ := at_pair.mp hv
  refine ⟨_, _, rfl, .inr ⟨_, .inl hp, rfl⟩, rfl, _, rfl, iteF' rfl (r_p0 hv fun w0 h0 => ?_)⟩
  rw [at_str.mp h0]
  refine ⟨n, vn, sv, rfl, hn, fun H1 s1 => ⟨_, rfl, ?_⟩⟩
  rw [decide_eq_true hs]
  refine iteT' rfl (r_p1 (hv.same s1) fun w1 h1 => ?_)
  rw [at_str.mp h1]
  refine ⟨c, vc, r, rfl, hc.same s1, co.nd, fun H2 s2 => ?_⟩
  rw [decide_eq_true hrl]
  exact q _ (s1.trans s2)
theorem ok_is_schedule (T : Bt mg) (hP : ∃ t, mg "MOST_REPLACEMENTS" = some (.int 400 t)) (G : Df P w K mg base CX0 2 "is_replacement" ["network", "catalog", "value"] spIsReplacement) (F : St0 K mg "is_schedule" sIsSchedule) : Df P w K mg base CX0 3 "is_schedule" ["network", "catalog", "value"] spIsSchedule := by
  refine F.ok0 scISch (fun vs H Q E h => ?_) (fun _ _ _ _ _ _ us hl => match us, hl with | [_, _, _], _ => rfl) fun f cdv A outer s H vs Q E hr h => ?_
  · obtain ⟨n, c, l, vn, vc, v, rfl, _⟩ := h
    rfl
  obtain ⟨n, c, l, vn, vc, v, rfl, hn, hc, co, hv, hl, hlen, q⟩ := h
  obtain ⟨tk, hP⟩ := hP
  refine ⟨_, pss_cons (ps_if (PW.pt (pw_or (pt_not (pt_val (eIsi (m := "tuple") K T (pv 2) T.tuple boot_tuple))) (pw_or1 (pt_cmpR op_gt (eLen K T (pv 2)) (pe_glob (v := .int 400) rfl hP ⟨_, rfl⟩) (nomark _))))) (pss_one (ps_ret pe_bl)) pss_nil)
    (pss_one (ps_ret (eAll K T rfl (pe_lc (own := [("replacement", 3)]) (g := gName 3) rfl scISch.nd (piT K (pv 2)) (blkOk_by (by rfl)) (fun _ _ _ _ _ => pg_name (i := 3) scISch.nd rfl (Or.inl rfl)) (fun _ _ _ _ _ => pts_nil)
      (fun _ _ _ _ _ => pe_df G hr pass0 (pa_cons (pv 0) (pa_cons (pv 1) (pa_cons (pv 3) pa_nil)))))))), ?_⟩
  walk_at "nf"
  refine isiTup hv ⟨_, rfl, iteF' rfl (r_lenT' hv ⟨_, _, rfl, rfl, _, rfl, iteF' (decide_eq_false (by omega)) ?_⟩)⟩
  obtain ⟨p, xs, rfl, hp, hx⟩ := at_list.mp hv
  refine lc_tup (fun R h => ⟨_, rfl, h⟩) (l := l) ⟨.inl hp, hx⟩ RAt stab_at (fun _ => true) (fun _ => true) (small1000 (Nat.le_trans hlen (by decide))) (fun r y H2 R hr' s2 hy kp dr => ?_) fun D ys H2 hD s2 hD' hp' => ?_
  · refine ⟨rfl, ?_⟩
    walk_at "nf"
    exact ⟨n, c, r.1, r.2, vn, vc, y, rfl, hn.same s2, hc.same s2, co, hy, (hl r hr').1, (hl r hr').2, fun H' s' => kp _ _ s' rfl rfl⟩
  · refine r_all hD' hp' ?_
    rw [all_true]
    exact q _ s2
theorem ok_check_schedule (G : Df P w K mg base CX0 3 "is_schedule" ["network", "catalog", "value"] spIsSchedule) (F : St0 K mg "check_schedule" sCheckSchedule) : Df P w K mg base CX0 4 "check_schedule" ["network", "catalog", "value"] spCheckSchedule := by
  refine F.ok0 scCSch (fun vs H Q E h => ?_) (fun _ _ _ _ _ _ us hl => match us, hl with | [_, _, _], _ => rfl) fun f cdv A outer s H vs Q E hr h => ?_
  · obtain ⟨n, c, l, vn, vc, v, rfl, _⟩ := h
    rfl
  obtain ⟨n, c, l, vn, vc, v, rfl, hn, hc, co, hv, hl, hlen, q⟩ := h
  refine ⟨_, pss_one (ps_if (pt_not (pt_val (pe_df G hr pass0 (pa_cons (pv 0) (pa_cons (pv 1) (pa_cons (pv 2) pa_nil)))))) pss_never pss_nil), ?_⟩
  walk_at "nf"
  exact ⟨n, c, l, vn, vc, v, rfl, hn, hc, co, hv, hl, hlen, fun H' s => ⟨true, rfl, iteF' rfl (q _ s)⟩⟩
end
/-! ### the generator -/
/-- the generator def x keeps the promise sp at the level k -/
def Gf (P : Program) (w : World) (K : PySem.W.Frag) (mg : Str → Option Value) (base : Heap) (k : Nat) (x : Str) (ps : List Str) (sp : SpG) : Prop :=
  ∃ f fd, mg x = some (.ref f) ∧ PySem.W.keepIn K (.ref f) = true ∧ Binds K fd ps [] ∧ GFn P w K mg base k f fd ps sp
section
variable {P : Program} {w : World} {K : PySem.W.Frag} {mg : Str → Option Value} {base : Heap} {k : Nat} {x : Str} {N ps : List Str} {sp : SpG} {st : Stmt}
theorem St0.gen (F : St0 K mg x st) (S : GScope N ps (defScope st)) (len : ∀ vs H Q E, sp vs H Q E → vs.length = ps.length)
    (hb : ∀ (kV doc pm : Value) (an : Option Addr) (cdv ct : Value) (us : List Value), us.length = ps.length → bindArgs (PySem.W.fnOf x x (defArgs st) (defBody st) (defScope st) .none kV doc pm an cdv ct) ⟨us, []⟩ = pure (ps.zip us))
    (hbody : ∀ (f : Addr) (cdv : Value) (A : Around) (outer : List Env) (s : Shared) (H : Hp) (vs : List V) (Q : List V → Hp → Prop) (E : XK) (pn : List (Addr × Obj)), Room k (A.deeper (envOfC x (defScope st) s.heap.objs.size f cdv)) → sp vs H Q E →
      ∃ t, GSs (gcxOf P w K mg base N x (defScope st) f cdv A outer s H E pn) (defBody st) t ∧ t { nx := fun ys _ H' => Q ys H', rt := fun ys v H' => v = .non ∧ Q ys H' } [] (start N vs) H) : Gf P w K mg base (k + 1) x ps sp := by
  obtain ⟨f, fd, hm, F⟩ := F
  refine ⟨f, fd, hm, F.kp, F.bindsN hb, ?_⟩
  obtain ⟨oc, od, dV, kV, doc, pm, an, cdv, ct, osl, rfl, lk, hcd, _, _⟩ := F.ex
  exact gfn_of lk hcd S len fun A outer s H vs Q E pn hr hsp => hbody f cdv A outer s H vs Q E pn hr hsp
end
abbrev sWalk : Stmt := top 43
abbrev sRun : Stmt := top 44
theorem scWalk : GScope ["network", "catalog", "state", "schedule", "index", "service", "release"] ["network", "catalog", "state", "schedule"] (defScope sWalk) := ⟨rfl, rfl, rfl, by decide +kernel, rfl, by decide +kernel, by decide +kernel⟩
theorem scRun : FnScope ["network", "catalog", "state", "schedule"] ["network", "catalog", "state", "schedule"] (defScope sRun) := ⟨rfl, rfl, rfl, by decide +kernel, rfl, by decide +kernel, by decide +kernel⟩
def spWalk : SpG := fun vs H cont _ => ∃ (n : Net) (c : Cat) (st st' : State) (l : Log) (vn vc v vl : V), vs = [vn, vc, v, vl] ∧ NetD H n vn ∧ CatAt H c vc ∧ CatOk c ∧ NetOk n ∧ At H st v ∧ StOk n c st ∧ At H l vl ∧ l.length ≤ 400 ∧ Runs n c st l st' ∧
  ∀ ys u H', Same H H' → At H' st' u → cont (ys ++ [u]) H'
def spRun : Sp := fun vs H Q _ => ∃ (n : Net) (c : Cat) (st st' : State) (l : Log) (vn vc v vl : V), vs = [vn, vc, v, vl] ∧ NetD H n vn ∧ CatAt H c vc ∧ CatOk c ∧ NetOk n ∧ At H st v ∧ StOk n c st ∧ At H l vl ∧ l.length ≤ 400 ∧ Runs n c st l st' ∧
  ∀ u H', Same H H' → At H' st' u → Q u H'
section
variable {P : Program} {w : World} {K : PySem.W.Frag} {mg : Str → Option Value} {base : Heap}
theorem ok_walk (T : Bt mg) (G1 : Df P w K mg base CX0 2 "in_the_way" ["network", "catalog", "state", "service", "release"] spInTheWay) (G2 : Df P w K mg base CX0 1 "changed" ["network", "state", "service", "release"] spChanged) (F : St0 K mg "walk" sWalk) : Gf P w K mg base 3 "walk" ["network", "catalog", "state", "schedule"] spWalk := by
  refine F.gen scWalk (fun vs H Q E h => ?_) (fun _ _ _ _ _ _ us hl => match us, hl with | [_, _, _, _], _ => rfl) fun f cdv A outer s H vs Q E pn hr h => ?_
  · obtain ⟨n, c, st, st', l, vn, vc, v, vl, rfl, _⟩ := h
    rfl
  obtain ⟨n, c, st, st', l, vn, vc, v, vl, rfl, hn, hc, co, no, hst, so, hl, hlen, hruns, q⟩ := h
  refine ⟨_, gss_cons (gs_yield (pv 2)) (gss_cons (gs_for owns_gcx rfl (pi_enumT K rfl T.enumerate (pa_cons (pv 3) pa_nil)) (pg_tup rfl (pgs_cons (pg_name (i := 4) scWalk.nd rfl (Or.inl rfl)) (pgs_cons (pg_tup rfl (pgs_cons (pg_name (i := 5) scWalk.nd rfl (Or.inl rfl)) (pgs_cons (pg_name (i := 6) scWalk.nd rfl (Or.inl rfl)) pgs_nil))) pgs_nil)))
      (gss_cons (gs_ps (ps_if (pt_cmpR (opNeD K hr.units) (pe_df G1 hr pass0 (pa_cons (pv 0) (pa_cons (pv 1) (pa_cons (pv 2) (pa_cons (pv 5) (pa_cons (pv 6) pa_nil)))))) (pe_tup pa_nil) (nomark _)) pss_never pss_nil))
      (gss_cons (gs_ps (ps_set (i := 2) scWalk.nd rfl (Or.inl rfl) (pe_df G2 hr pass0 (pa_cons (pv 0) (pa_cons (pv 2) (pa_cons (pv 5) (pa_cons (pv 6) pa_nil)))))))
      (gss_cons (gs_yield (pv 2)) gss_nil)))) gss_nil), ?_⟩
  walk_at "nf"
  obtain ⟨pl, xs, rfl, hpl, hxs⟩ := at_list.mp hl
  have lx := Al.len hxs
  refine ⟨by decide, _, rfl, pl, xs, rfl, .inl hpl, fun i m ys σ' H' => m = l.length - i ∧ i ≤ l.length ∧ ys.length = i + 1 ∧ ∃ st1 v1 u4 u5 u6 r, σ' = [some vn, some vc, some v1, some (.ref pl), u4, u5, u6] ∧ At H' st1 v1 ∧ StOk n c st1 ∧ Runs n c st1 (l.drop i) st' ∧ ys = r ++ [v1] ∧ Same H H',
    ⟨_, rfl, Nat.zero_le _, rfl, st, v, none, none, none, [], rfl, hst, so, hruns, rfl, .refl _⟩, ?_⟩
  rintro i m ys σ1 H1 ⟨rfl, hi, hys, st1, v1, u4, u5, u6, r, rfl, k1, k2, k3, rfl, s1⟩
  have hsq : SqT K H1 pl xs := sqT_tup (.inl hpl) s1.tupS
  by_cases hlt : i < l.length
  · refine .inr ⟨⟨xs, xs[i]'(by omega), hsq, by simp [show i < xs.length by omega]⟩, fun ys' σ' H' => ys'.length = i + 2 ∧ ∃ st1 v1 u4 u5 u6 r, σ' = [some vn, some vc, some v1, some (.ref pl), u4, u5, u6] ∧ At H' st1 v1 ∧ StOk n c st1 ∧ Runs n c st1 (l.drop (i + 1)) st' ∧ ys' = r ++ [v1] ∧ Same H H', fun ys' σ' H' h => ⟨_, by omega, rfl, hlt, h.1, h.2⟩, fun x H2 hx => ?_⟩
    obtain ⟨T0, x0, rfl, hT, rfl, hx0⟩ := hx
    obtain ⟨p, hp, hx1⟩ := Al.get (hxs.same s1) (hx0 xs hsq)
    obtain ⟨q0, y1, y2, rfl, hq0, hy1, hy2⟩ := at_pair.mp (show At H1 (p.1, p.2) x0 from hx1)
    rw [at_str.mp hy1, at_str.mp hy2] at hq0
    have hd : l.drop i = p :: l.drop (i + 1) := by
      rw [List.drop_eq_getElem_cons hlt]
      congr 1
      have := List.getElem?_eq_getElem hlt
      rw [hp] at this
      exact (Option.some.inj this).symm
    rw [hd] at k3
    obtain ⟨st2, rp, rr⟩ := k3
    obtain ⟨j, j1, j2⟩ := rp.at_
    have sT : Same H1 (upd H1 T0 (.tup [.int (i : Nat), .ref q0])) := .new hT
    have hq2 : Rd (upd H1 T0 (.tup [.int (i : Nat), .ref q0])) q0 (.tup [.str p.1, .str p.2]) := rd_tup hq0 sT.tupS
    refine ⟨T0, _, rfl, .of upd_same, rfl, _, _, rfl, _, _, rfl, q0, _, rfl, .inl hq2, rfl, _, _, rfl, _, _, rfl, rfl, rfl, ?_⟩
    walk_at "nf"
    have s2 := s1.trans sT
    refine ⟨n, c, st1, p.1, p.2, vn, vc, v1, rfl, hn.1.same s2, hc.same s2, co, no, k1.same sT, k2, List.mem_of_getElem? j1, rp.rel, fun pw lw H3 s3 hw hok hfree => ⟨by decide, fun t ht => r_ne (α := List Str) (hw.same (.new ht)) (.new ht .nil) hok (fun a ha => by cases ha) ⟨_, rfl, iteF' (by rw [hfree.mpr rp.free]; rfl) ?_⟩⟩⟩
    have s4 : Same H (upd H3 t (.tup [])) := (s2.trans s3).snew ht
    refine ⟨n, st1, j, p.1, p.2, vn, v1, rfl, hn.tup s4.tupS, no, (k1.same sT).same (s3.snew ht), k2.len, j1, fun p5 H5 s5 h5 => ⟨?_, ?_, st2, .ref p5, _, _, _, r ++ [v1], rfl, by rw [j2]; exact h5, rp.ok k2, rr, rfl, s4.trans s5⟩⟩
    · rw [hys]; exact small1000 (by omega)
    · rw [List.length_append, hys]; rfl
  · have e : i = l.length := by omega
    subst e
    rw [List.drop_length] at k3
    refine .inl ⟨⟨xs, hsq, by omega⟩, ?_⟩
    rw [show st' = st1 from k3] at q
    exact q r v1 H1 s1 k1
theorem passX {P : Program} {w : World} {X : Cx} : Passes (CX P w) X E0 := fun _ _ _ _ _ _ _ h => by
  obtain ⟨a, B, H', cls, d, _, _, _, _, _, _, _, z⟩ := h
  exact False.elim z
theorem ok_run (T : Bt mg) (G1 : Df P w K mg base CX0 4 "check_schedule" ["network", "catalog", "value"] spCheckSchedule) (G2 : Gf P w K mg base 3 "walk" ["network", "catalog", "state", "schedule"] spWalk) (F : St0 K mg "run" sRun) : Df P w K mg base CX0 7 "run" ["network", "catalog", "state", "schedule"] spRun := by
  refine F.ok0 scRun (fun vs H Q E h => ?_) (fun _ _ _ _ _ _ us hl => match us, hl with | [_, _, _, _], _ => rfl) fun f cdv A outer s H vs Q E hr h => ?_
  · obtain ⟨n, c, st, st', l, vn, vc, v, vl, rfl, _⟩ := h
    rfl
  obtain ⟨n, c, st, st', l, vn, vc, v, vl, rfl, hn, hc, co, no, hst, so, hl, hlen, hruns, q⟩ := h
  obtain ⟨f2, fd2, hm2, hk2, hb2, G2⟩ := G2
  refine ⟨_, pss_cons (ps_expr (pe_df G1 hr pass0 (pa_cons (pv 0) (pa_cons (pv 1) (pa_cons (pv 3) pa_nil)))))
    (pss_one (ps_ret (eL K (pe_listG (k := 3) (pgen_call (E := E0) G2 (hr.mono (by decide)) rfl hm2 hk2 hb2 .nil (pa_cons (pv 0) (pa_cons (pv 1) (pa_cons (pv 2) (pa_cons (pv 3) pa_nil))))) passX (fun _ _ _ h => h.elim) hr rfl T.list boot_list) (pe_un un_neg pe_int)))), ?_⟩
  walk_at "nf"
  refine ⟨n, c, l, vn, vc, vl, rfl, hn.1, hc, co, hl, fun p hp => hruns.rel p hp, hlen, fun H1 s1 => ⟨n, c, st, st', l, vn, vc, v, vl, rfl, hn.tup s1.tupS, hc.same s1, co, no, hst.same s1, so, hl.same s1, hlen, hruns, fun ys u H2 s2 hu p hp => ⟨_, rfl, p, ys ++ [u], _, u, rfl, rfl, .of upd_same, atI_last _ _, ?_⟩⟩⟩
  exact q u _ ((s1.trans s2).snew hp) (hu.same (.new hp))
end
end G3
end

/-! ## G3Lc2 -/
section
set_option Elab.async false
set_option linter.all false
set_option maxRecDepth 100000
set_option maxHeartbeats 4000000
/-! [.. for .. in .. for .. in ..] where nothing that stood is changed. -/
namespace G3
open PySem PySem.Spec PyProof.Rows L2
theorem fm_snoc {α β : Type} (keep : α → Bool) (f : α → List β) {l : List α} {i : Nat} {a : α} (h : l[i]? = some a) :
    ((l.take (i + 1)).filter keep).flatMap f = ((l.take i).filter keep).flatMap f ++ if keep a then f a else [] := by
  rw [List.take_add_one, h, List.filter_append, List.flatMap_append]
  cases q : keep a <;> simp [q]
theorem fm_len {α β : Type} (keep : α → Bool) (f : α → List β) (l : List α) (i : Nat) : (((l.take i).filter keep).flatMap f).length ≤ ((l.filter keep).flatMap f).length := by
  have h : ((l.take i).filter keep).flatMap f ++ ((l.drop i).filter keep).flatMap f = (l.filter keep).flatMap f := by
    rw [← List.flatMap_append, ← List.filter_append, List.take_append_drop]
  rw [← h, List.length_append]; omega
theorem lc2_pure {α γ β : Type} {Ra : Rel α} {J : It} {l : List α} {H1 : Hp} {G : Hp → Prop} {C : Hp → Hp → Prop} (w : Src C Ra J l G) (hC : ∀ a b, C a b → Same a b) (hG : ∀ H, Same H1 H → G H) (Rb : Rel β) (hb : Stab Rb) (keep : α → Bool) (l1 : α → List γ) (f : α → γ → β)
    (hl : ((l.filter keep).flatMap fun a => (l1 a).map (f a)).length < sizeLine)
    {g g1 : TG} {tt tt1 : TT} {te : TE} {wi1 : TI} {vs vs1 : List Nat} {σ : L2.St} {Q : VK}
    (step : ∀ (a : α) (x : V) (D : Addr) (H2 : Hp) (IN : L2.St → It → Hp → Prop) (Sk : Hp → Prop), a ∈ l → H1 D = none → Same H1 H2 → Ra H2 a x →
      (keep a = true → ∀ (σ2 : L2.St) (J1 : It) (H5 : Hp) (C1 : Hp → Hp → Prop) (Rc : Rel γ) (G1 : Hp → Prop), Same H2 H5 → Src C1 Rc J1 (l1 a) G1 → (∀ a b, C1 a b → Same a b) → (∀ H, Same H1 H → TupS H5 H → G1 H) →
        (∀ (c : γ) (y : V) (H6 : Hp) (R : Option V → Hp → Prop), c ∈ l1 a → Same H1 H6 → TupS H5 H6 → Rc H6 c y → (∀ z H7, Same H6 H7 → Rb H7 (f a c) z → R (some z) H7) →
          g1 y (wipe σ2 vs1) H6 fun σ3 H7 => wipe σ3 vs1 = wipe σ2 vs1 ∧ tt1 σ3 H7 fun b H8 => if b = true then te σ3 H8 (fun z H9 => R (some z) H9) else R none H8) → IN σ2 J1 H5) →
      (∀ H4, Same H2 H4 → keep a = false → Sk H4) →
      g x (wipe σ vs) H2 fun σ2 H3 => wipe σ2 vs = wipe σ vs ∧ tt σ2 H3 fun b H4 => if b = true then wi1 σ2 H4 (fun J1 H5 => IN σ2 J1 H5) else Sk H4)
    (fin : ∀ D ys H', H1 D = none → Same H1 H' → H' D = some (.lst ys) → Paired (Rb H') ((l.filter keep).flatMap fun a => (l1 a).map (f a)) ys → Q (.ref D) H') :
    ∀ D, H1 D = none → ∃ W : Nat → Nat → Hp → Prop, (∃ m, W 0 m (upd H1 D (.lst []))) ∧ ∀ i m H, W i m H →
      (J.stop i H ∧ Q (.ref D) H) ∨ (J.go i H ∧ ∃ Nx : Hp → Prop, (∀ H', Nx H' → ∃ m', m' < m ∧ W (i + 1) m' H') ∧ ∀ x H', J.yld i H x H' → g x (wipe σ vs) H' fun σ2 H2 => wipe σ2 vs = wipe σ vs ∧ tt σ2 H2 fun b H3 =>
        if b = true then wi1 σ2 H3 fun J1 H4 => ∃ W1 : Nat → Nat → Hp → Prop, (∃ m, W1 0 m H4) ∧ ∀ j k H, W1 j k H →
          (J1.stop j H ∧ Nx H) ∨ (J1.go j H ∧ ∃ Nx1 : Hp → Prop, (∀ H', Nx1 H' → ∃ k', k' < k ∧ W1 (j + 1) k' H') ∧ ∀ x H', J1.yld j H x H' → g1 x (wipe σ2 vs1) H' fun σ3 H5 => wipe σ3 vs1 = wipe σ2 vs1 ∧ tt1 σ3 H5 fun b H6 =>
            if b = true then te σ3 H6 fun y H7 => ∃ acc, H7 D = some (.lst acc) ∧ acc.length < sizeLine ∧ Nx1 (upd H7 D (.lst (acc ++ [y]))) else Nx1 H6)
        else Nx H3) := by
  intro D hD
  let F : α → List β := fun a => (l1 a).map (f a)
  let Iv : List β → Hp → Prop := fun bs H => Same H1 H ∧ ∃ ys, H D = some (.lst ys) ∧ Paired (Rb H) bs ys
  have mv : ∀ {bs : List β} {H H4 : Hp}, Iv bs H → Same H H4 → Iv bs H4 := fun {bs H H4} ⟨s, ys, hd, hp⟩ s4 => ⟨s.trans s4, ys, s4 _ _ hd, Paired.mapP hp fun b v q => hb _ _ b v s4.tupS q⟩
  refine ⟨fun i m H => m = l.length - i ∧ i ≤ l.length ∧ Iv (((l.take i).filter keep).flatMap F) H, ⟨l.length, by simp, Nat.zero_le _, Same.new hD, [], upd_same, .nil⟩, ?_⟩
  rintro i m H ⟨rfl, hi, iv⟩
  have s := iv.1
  by_cases hlt : i < l.length
  · refine .inr ⟨w.goes i H hlt (hG H s), fun H' => Iv (((l.take (i + 1)).filter keep).flatMap F) H', fun H' p' => ⟨l.length - (i + 1), by omega, rfl, hlt, p'⟩, fun x H' y => ?_⟩
    obtain ⟨s2, a, ea, ha⟩ := w.yields i H x H' hlt (hG H s) y
    have s2 := hC _ _ s2
    have iv' := mv iv s2
    refine step a x D H' (fun σ2 J1 H4 => ∃ W1 : Nat → Nat → Hp → Prop, (∃ m, W1 0 m H4) ∧ ∀ j k H, W1 j k H →
          (J1.stop j H ∧ Iv (((l.take (i + 1)).filter keep).flatMap F) H) ∨ (J1.go j H ∧ ∃ Nx1 : Hp → Prop, (∀ H', Nx1 H' → ∃ k', k' < k ∧ W1 (j + 1) k' H') ∧ ∀ x H', J1.yld j H x H' → g1 x (wipe σ2 vs1) H' fun σ3 H5 => wipe σ3 vs1 = wipe σ2 vs1 ∧ tt1 σ3 H5 fun b H6 =>
            if b = true then te σ3 H6 fun y H7 => ∃ acc, H7 D = some (.lst acc) ∧ acc.length < sizeLine ∧ Nx1 (upd H7 D (.lst (acc ++ [y]))) else Nx1 H6))
      (fun H4 => Iv (((l.take (i + 1)).filter keep).flatMap F) H4) (List.mem_of_getElem? ea) hD iv'.1 ha (fun kp σ2 J1 H5 C1 Rc G1 s5 w1 hC1 hG1 step1 => ?_) fun H4 s4 kp => ?_
    · have hfin : ((l.take (i + 1)).filter keep).flatMap F = ((l.take i).filter keep).flatMap F ++ (l1 a).map (f a) := by rw [fm_snoc keep F ea, if_pos kp]
      have h5 := mv iv' s5
      refine ⟨fun j k H => k = (l1 a).length - j ∧ j ≤ (l1 a).length ∧ TupS H5 H ∧ Iv (((l.take i).filter keep).flatMap F ++ ((l1 a).take j).map (f a)) H, ⟨_, rfl, Nat.zero_le _, .refl, by simpa using h5⟩, ?_⟩
      rintro j k H6 ⟨rfl, hj, t6, iv6⟩
      by_cases hjl : j < (l1 a).length
      · refine .inr ⟨w1.goes j H6 hjl (hG1 H6 iv6.1 t6), fun H => TupS H5 H ∧ Iv (((l.take i).filter keep).flatMap F ++ ((l1 a).take (j + 1)).map (f a)) H, fun H' h => ⟨_, by omega, rfl, hjl, h.1, h.2⟩, fun y H7 hy => ?_⟩
        obtain ⟨s7, c, ec, hc⟩ := w1.yields j H6 y H7 hjl (hG1 H6 iv6.1 t6) hy
        have s7 := hC1 _ _ s7
        have iv7 := mv iv6 s7
        have ht : (l1 a).take (j + 1) = (l1 a).take j ++ [c] := by rw [List.take_add_one, ec]; rfl
        refine step1 c y H7 (fun oz H8 => match oz with
          | some z => ∃ acc, H8 D = some (.lst acc) ∧ acc.length < sizeLine ∧ (TupS H5 (upd H8 D (.lst (acc ++ [z]))) ∧ Iv (((l.take i).filter keep).flatMap F ++ ((l1 a).take (j + 1)).map (f a)) (upd H8 D (.lst (acc ++ [z]))))
          | none => TupS H5 H8 ∧ Iv (((l.take i).filter keep).flatMap F ++ ((l1 a).take (j + 1)).map (f a)) H8) (List.mem_of_getElem? ec) iv7.1 (t6.trans s7.tupS) hc (fun z H8 s8 hz => ?_)
        · obtain ⟨s8', ys, h8, hp8⟩ := mv iv7 s8
          have hlen : ys.length < sizeLine := by
            have e1 := hp8.length
            have e2 := fm_len keep F l (i + 1)
            rw [hfin, List.length_append, List.length_map] at e2
            rw [List.length_append, List.length_map, List.length_take] at e1
            have e3 : ((l.filter keep).flatMap F).length < sizeLine := hl
            omega
          have k : TupS H8 (upd H8 D (.lst (ys ++ [z]))) := .lst h8
          refine ⟨ys, h8, hlen, ((t6.trans s7.tupS).trans s8.tupS).trans k, s8'.put hD, ys ++ [z], upd_same, ?_⟩
          rw [ht, List.map_append, ← List.append_assoc]
          exact Paired.snoc (Paired.mapP hp8 fun b v q => hb _ _ b v k q) (hb _ _ _ _ k hz)
      · have e : j = (l1 a).length := by omega
        subst e
        rw [List.take_length, ← hfin] at iv6
        exact .inl ⟨w1.stops H6 (hG1 H6 iv6.1 t6), iv6⟩
    · have := mv iv' s4
      rw [fm_snoc keep F ea, if_neg (by rw [kp]; exact Bool.false_ne_true), List.append_nil]
      exact this
  · have e : i = l.length := by omega
    subst e
    rw [List.take_length] at iv
    obtain ⟨s, ys, hd, hp⟩ := iv
    exact .inl ⟨w.stops H (hG H s), fin D ys H hD s hd hp⟩
section
variable {K : PySem.W.Frag} {r : R2} {t1 t2 : TE} {g g1 : TG} {tt tt1 : TT} {wi1 : TI} {te : TE} {vs vs1 : List Nat} {σ : L2.St} {H : Hp} {Q : VK} {sp : Sp} {ds : List V} {E : XK} {ta : TA}
theorem lc2T_op : tLc2 (iTup K (tOp r t1 t2)) g tt wi1 g1 tt1 te vs vs1 σ H Q = tOp r t1 t2 σ H fun x H1 => tLc2 (iTup K (tK x H1)) g tt wi1 g1 tt1 te vs vs1 σ H1 Q := rfl
theorem lc2L_call : tLc2 (iList K (tCall sp ds E ta)) g tt wi1 g1 tt1 te vs vs1 σ H Q = tCall sp ds E ta σ H fun x H1 => tLc2 (iList K (tK x H1)) g tt wi1 g1 tt1 te vs vs1 σ H1 Q := rfl
end
section
variable {α γ β : Type} {K : PySem.W.Frag} {H H1 : Hp} {tl : TE} {p : Addr} {xs : List V} {l : List α} {g g1 : TG} {tt tt1 : TT} {te : TE} {wi1 : TI} {vs vs1 : List Nat} {σ : L2.St} {Q : VK}
theorem lc2_tup [Enc α] (hsrc : ∀ R : V → Hp → Prop, R (.ref p) H1 → tl σ H R) (hl : GT K p xs l H1) (Rb : Rel β) (hb : Stab Rb) (keep : α → Bool) (l1 : α → List γ) (f : α → γ → β) (hn : ((l.filter keep).flatMap fun a => (l1 a).map (f a)).length < sizeLine)
    (step : ∀ (a : α) (x : V) (D : Addr) (H2 : Hp) (IN : L2.St → It → Hp → Prop) (Sk : Hp → Prop), a ∈ l → H1 D = none → Same H1 H2 → At H2 a x →
      (keep a = true → ∀ (σ2 : L2.St) (J1 : It) (H5 : Hp) (C1 : Hp → Hp → Prop) (Rc : Rel γ) (G1 : Hp → Prop), Same H2 H5 → Src C1 Rc J1 (l1 a) G1 → (∀ a b, C1 a b → Same a b) → (∀ H, Same H1 H → TupS H5 H → G1 H) →
        (∀ (c : γ) (y : V) (H6 : Hp) (R : Option V → Hp → Prop), c ∈ l1 a → Same H1 H6 → TupS H5 H6 → Rc H6 c y → (∀ z H7, Same H6 H7 → Rb H7 (f a c) z → R (some z) H7) →
          g1 y (wipe σ2 vs1) H6 fun σ3 H7 => wipe σ3 vs1 = wipe σ2 vs1 ∧ tt1 σ3 H7 fun b H8 => if b = true then te σ3 H8 (fun z H9 => R (some z) H9) else R none H8) → IN σ2 J1 H5) →
      (∀ H4, Same H2 H4 → keep a = false → Sk H4) →
      g x (wipe σ vs) H2 fun σ2 H3 => wipe σ2 vs = wipe σ vs ∧ tt σ2 H3 fun b H4 => if b = true then wi1 σ2 H4 (fun J1 H5 => IN σ2 J1 H5) else Sk H4)
    (fin : ∀ D ys H', H1 D = none → Same H1 H' → H' D = some (.lst ys) → Paired (Rb H') ((l.filter keep).flatMap fun a => (l1 a).map (f a)) ys → Q (.ref D) H') : tLc2 (iTup K tl) g tt wi1 g1 tt1 te vs vs1 σ H Q :=
  hsrc _ ⟨p, rfl, ⟨xs, hl.1⟩, lc2_pure (Ra := RAt) (G := GT K p xs l) (C := Eq) src_tup (fun a b e => by subst e; exact .refl _) (fun H s => gt_same hl s) Rb hb keep l1 f hn step fin⟩
theorem lc2_listR {RR : Rel α} (hsrc : ∀ R : V → Hp → Prop, R (.ref p) H1 → tl σ H R) (hl : GLR K p xs RR l H1) (hR : Stab RR) (Rb : Rel β) (hb : Stab Rb) (keep : α → Bool) (l1 : α → List γ) (f : α → γ → β) (hn : ((l.filter keep).flatMap fun a => (l1 a).map (f a)).length < sizeLine)
    (step : ∀ (a : α) (x : V) (D : Addr) (H2 : Hp) (IN : L2.St → It → Hp → Prop) (Sk : Hp → Prop), a ∈ l → H1 D = none → Same H1 H2 → RR H2 a x →
      (keep a = true → ∀ (σ2 : L2.St) (J1 : It) (H5 : Hp) (C1 : Hp → Hp → Prop) (Rc : Rel γ) (G1 : Hp → Prop), Same H2 H5 → Src C1 Rc J1 (l1 a) G1 → (∀ a b, C1 a b → Same a b) → (∀ H, Same H1 H → TupS H5 H → G1 H) →
        (∀ (c : γ) (y : V) (H6 : Hp) (R : Option V → Hp → Prop), c ∈ l1 a → Same H1 H6 → TupS H5 H6 → Rc H6 c y → (∀ z H7, Same H6 H7 → Rb H7 (f a c) z → R (some z) H7) →
          g1 y (wipe σ2 vs1) H6 fun σ3 H7 => wipe σ3 vs1 = wipe σ2 vs1 ∧ tt1 σ3 H7 fun b H8 => if b = true then te σ3 H8 (fun z H9 => R (some z) H9) else R none H8) → IN σ2 J1 H5) →
      (∀ H4, Same H2 H4 → keep a = false → Sk H4) →
      g x (wipe σ vs) H2 fun σ2 H3 => wipe σ2 vs = wipe σ vs ∧ tt σ2 H3 fun b H4 => if b = true then wi1 σ2 H4 (fun J1 H5 => IN σ2 J1 H5) else Sk H4)
    (fin : ∀ D ys H', H1 D = none → Same H1 H' → H' D = some (.lst ys) → Paired (Rb H') ((l.filter keep).flatMap fun a => (l1 a).map (f a)) ys → Q (.ref D) H') : tLc2 (iList K tl) g tt wi1 g1 tt1 te vs vs1 σ H Q :=
  hsrc _ ⟨p, rfl, ⟨xs, hl.1⟩, lc2_pure (Ra := RR) (G := GLR K p xs RR l) (C := Eq) src_listR (fun a b e => by subst e; exact .refl _) (fun H s => ⟨s.seq hl.1, Paired.mapP hl.2 fun b v q => hR _ _ b v s.tupS q⟩) Rb hb keep l1 f hn step fin⟩
end
end G3
end

/-! ## G3Rep -/
section
set_option Elab.async false
set_option linter.all false
set_option maxRecDepth 100000
set_option maxHeartbeats 4000000
/-! tuple * int, the int 1 too (then the tuple itself). -/
namespace G3
open PySem PySem.Spec PyProof.Rows L2
theorem tuple_mul1 (l : Addr) (items : Array Value) (n : Nat) (dd : Option Addr) (sl : Array (Option Value)) (u : Tok) :
    Meets (Builtin.«tuple.__mul__» ⟨[.ref l, .int 1 u], []⟩) (fun _ R s => s.heap.get? l = some { cls := .type "tuple", dict := dd, data := .seq items n, slots := sl } ∧ R (.ok (.ret (Value.ref l))) s) :=
  .of_wp fun prog w A R s h => by
    obtain ⟨hp, g, d, tk, os⟩ := s
    obtain ⟨hl, h⟩ := h
    have f1 := AutoSeq1.idx_int
    have c1 : (items.isEmpty || (1 : Int) == 1) = true := by simp
    wp_walk using wpAny_loadPart' hl
    repeat (first
      | (refine wpAny_ite_false (by decide) ?_; wp_walk using wpAny_loadPart' hl)
      | (refine wpAny_ite_true (decide_eq_true c1) ?_; wp_walk using wpAny_loadPart' hl))
    exact ⟨_, rfl, h⟩
def rRepA (K : PySem.W.Frag) : R2 := fun x y H Q => ∃ l k xs, x = .ref l ∧ y = .int k ∧ SqT K H l xs ∧ xs ≠ [] ∧ 1 ≤ k ∧ k ≤ 1000 ∧ xs.length ≤ 1000 ∧ (k = 1 → Q (.ref l) H) ∧ (2 ≤ k → ∀ p, H p = none → Q (.ref p) (upd H p (.tup (List.replicate k.toNat xs).flatten)))
section
variable {X : Cx}
theorem op_repA (K : PySem.W.Frag) (e : X.K = K := by rfl) : OpR X (binaryOp .Mult) (rRepA K) := by
  subst e
  intro pins s σ H x y v u Q I rx ry h
  obtain ⟨l, k, xs, rfl, rfl, hT, hne, h1, h2, hz, q1, q2⟩ := h
  by_cases hk : k = 1
  · subst hk
    have q := q1 rfl
    cases rx
    obtain ⟨t, rfl⟩ := ry
    obtain ⟨its, r, ⟨⟨cls, dd, data, sl⟩, ho, hc, n, hd⟩, hs⟩ := I.tuple hT
    simp only at hc hd
    subst hc hd
    refine wpAny_binaryOp_repeat_ref (T := "tuple") (U := "int") (by decide) ⟨_, ho, rfl⟩ (fun s' => typeIs_int s' 1 t) noFill_tuple_mul F.fills_int_mul F.slot_int_rmul repeat_tuple F.slot_int_index.lookup
      (call_meets F.slot_int_rmul (typeIs_int s 1 t) F.entry_int_rmul (F.args_int_rmul_2 _ _) (int_rmul_tuple 1 t l its.toArray n dd sl)
        ⟨ho, rfl, ⟨_, ho, rfl⟩, call_meets F.slot_tuple_mul ⟨_, ho, rfl⟩ F.entry_tuple_mul (F.args_tuple_mul_2 _ _) (tuple_mul1 l its.toArray n dd sl t) ⟨ho, ?_⟩⟩)
    exact ⟨.ref l, H, I, rfl, q⟩
  · exact op_repT pins s σ H (.ref l) (.int k) v u Q I rx ry ⟨l, k, xs, rfl, rfl, hT, hne, by omega, h2, hz, q2 (by omega)⟩
end
theorem r_rep {K : PySem.W.Frag} {H : Hp} {r : Str} {v : V} {n : Nat} {Q : VK} (h : At H [r] v) (h1 : 1 ≤ n) (h2 : n ≤ 1000) (q : ∀ u H', Same H H' → At H' (List.replicate n r) u → Q u H') : rRepA K v (.int n) H Q := by
  obtain ⟨p, rfl, hp⟩ := at_strs.mp h
  refine ⟨p, n, [.str r], rfl, rfl, .inl hp, by simp, by omega, by omega, by simp, fun e => ?_, fun h3 a ha => ?_⟩
  · have e' : n = 1 := by omega
    subst e'
    exact q _ H (.refl _) h
  · refine q _ _ (.new ha) ?_
    have e : (List.replicate (n : Int).toNat [V.str r]).flatten = (List.replicate n r).map V.str := by
      rw [Int.toNat_natCast, List.map_replicate]
      clear h1 h2 q h3
      induction n with
      | zero => rfl
      | succ n ih => rw [List.replicate_succ, List.replicate_succ, List.flatten_cons, ih]; rfl
    rw [e]
    exact .new ha (al_str.mpr rfl)
end G3
end

/-! ## G3Grid -/
section
set_option Elab.async false
set_option linter.all false
set_option maxRecDepth 100000
set_option maxHeartbeats 4000000
local macro_rules | `(tactic| walk_at "nf") => `(tactic| simp only [L2.tRet, L2.tRetN, L2.tAndV, L2.tOrV, L2.tNotV, L2.tCB, L2.tCons, L2.tNil, L2.tVar, L2.tC, L2.tDIn, L2.tDNotIn, L2.tDGet, L2.tOp, L2.tUn, L2.tTest, L2.tB, L2.tIf, L2.tIfS, L2.tAnd, L2.tOr, L2.tNot, L2.tSeq, L2.tAsg, L2.gName, L2.tDrop, L2.tNext, L2.tCall, L2.tTup, L2.tLst, L2.tBM, L2.tBM0, L2.tSl, L2.tPart, L2.tNoPart, L2.sDPut, L2.tFld, L2.sFld, L2.tMeth, L2.tYes, L2.gTup, L2.gCons, L2.gNil, L2.tIsN, L2.tNotN, L2.tPar, L2.tPar3, L2.tDNewK, L2.tDisp, L2.tPairs, L2.tDGet1, StX.tStar, G3.lc2T_op, G3.lc2L_call, L2.tGThen, L2.tG0, L2.tPlain, L2.GEnds.at, L2.tGYield, L2.tCallG, L2.tListG, G3.tTupIx, G3.dcT_op, G3.tFrz, G3.dcI_frz, G3.lcI_frz, G3.lcY_frz, G3.lcI_call, G3.lcT_lit, G3.forT_lit, G3.lcL_call, G3.lcL_op, G3.lcL_dget, G3.lcT_call, G3.lcT_op, G3.lcT_dget, G3.forL_call, G3.forL_op, G3.forL_dget, G3.forT_call, G3.forT_op, G3.forT_dget, G3.ex_l1, G3.ex_l2, G3.ex_l3,
  G3.start_eq, G3.cxOf_K, G3.wipe_nil, G3.wipe_cons, List.map_cons, List.map_nil, List.nil_append, List.cons_append, List.append_nil, List.getElem?_cons_zero, List.getElem?_cons_succ, List.set_cons_zero, List.set_cons_succ, List.set_nil, List.length_cons, List.length_nil, List.replicate, Option.some.injEq, G3.ex_eq, Nat.reduceAdd, Nat.reduceSub, Nat.zero_add, List.replicate_succ, List.replicate_zero, true_and, if_true, if_false, Bool.false_eq_true, Nat.add_zero, Int.add_zero])
namespace G3
open PySem PySem.Spec PyProof.Rows L2

abbrev Node := Str × Int
/-- a node, a tuple of its own -/
def RNd : Rel Node := fun H x v => ∃ p, v = .ref p ∧ H p = some (.tup [.str x.1, .int x.2])
theorem stab_nd : Stab RNd := fun H H' x v k ⟨p, e1, e2⟩ => ⟨p, e1, k _ _ e2 rfl⟩
theorem RNd.at_ {H : Hp} {x : Node} {v : V} (h : RNd H x v) : At H x v := by
  obtain ⟨p, rfl, hp⟩ := h
  exact at_pair.mpr ⟨p, _, _, rfl, .inl hp, rfl, rfl⟩
theorem nds_at {H : Hp} {l : List Node} {ys : List V} (h : Paired (RNd H) l ys) : Al H l ys := al_paired.mpr (Paired.mapP h fun b v q => q.at_)
/-- the nodes of the grid -/
def nodesOf (n : Net) (d : Int) : List Node := (n.1.filter fun s => !(adj n.2 s).isEmpty).flatMap fun s => (irange 1 (d - 1).toNat).map fun l => (s, l)
theorem mem_nodes {n : Net} {d : Int} {s : Str} {l : Int} : (s, l) ∈ nodesOf n d ↔ s ∈ n.1 ∧ adj n.2 s ≠ [] ∧ 1 ≤ l ∧ l < d := by
  unfold nodesOf
  rw [List.mem_flatMap]
  constructor
  · rintro ⟨a, ha, h⟩
    obtain ⟨b, hb, e⟩ := List.mem_map.mp h
    cases e
    obtain ⟨h1, h2⟩ := List.mem_filter.mp ha
    have := irange_mem.mp hb
    refine ⟨h1, fun e => by rw [e] at h2; simp at h2, this.1, by omega⟩
  · rintro ⟨h1, h2, h3, h4⟩
    refine ⟨s, List.mem_filter.mpr ⟨h1, ?_⟩, List.mem_map.mpr ⟨l, irange_mem.mpr ⟨h3, by omega⟩, rfl⟩⟩
    cases e : adj n.2 s with
    | nil => exact absurd e h2
    | cons a b => rfl
theorem fm_bound {α β : Type} (f : α → List β) (k : Nat) : ∀ (l : List α), (∀ a ∈ l, (f a).length ≤ k) → (l.flatMap f).length ≤ l.length * k
  | [], _ => by simp
  | a :: l, h => by
    rw [List.flatMap_cons, List.length_append, List.length_cons, Nat.succ_mul]
    have := fm_bound f k l fun b hb => h b (by simp [hb])
    have := h a (by simp)
    omega
theorem nodes_len {n : Net} {d : Int} (ok : NetOk n) (hd : d ≤ 12) : (nodesOf n d).length ≤ 110 := by
  have h := fm_bound (fun s => (irange 1 (d - 1).toNat).map fun l => (s, l)) 11 (n.1.filter fun s => !(adj n.2 s).isEmpty) (fun a _ => by rw [List.length_map, irange_len]; omega)
  have h2 := List.length_filter_le (fun s => !(adj n.2 s).isEmpty) n.1
  have h3 := ok.len
  have : (n.1.filter fun s => !(adj n.2 s).isEmpty).length * 11 ≤ 10 * 11 := Nat.mul_le_mul_right _ (by omega)
  exact Nat.le_trans h this
abbrev sNodes : Stmt := top 46
abbrev sAllAt : Stmt := top 47
abbrev sAdjacent : Stmt := top 49
theorem scNodes : FnScope ["network", "distance", "table", "service", "level"] ["network", "distance"] (defScope sNodes) := ⟨rfl, rfl, rfl, by decide +kernel, rfl, by decide +kernel, by decide +kernel⟩
theorem scAllAt : FnScope ["network", "release"] ["network", "release"] (defScope sAllAt) := ⟨rfl, rfl, rfl, by decide +kernel, rfl, by decide +kernel, by decide +kernel⟩
theorem scAdj : FnScope ["network", "node", "service", "level", "other"] ["network", "node"] (defScope sAdjacent) := ⟨rfl, rfl, rfl, by decide +kernel, rfl, by decide +kernel, by decide +kernel⟩
def spNodes : Sp := fun vs H Q _ => ∃ (n : Net) (d : Int) (v : V), vs = [v, .int d] ∧ NetAt H n v ∧ NetOk n ∧ 0 ≤ d ∧ d ≤ 12 ∧ ∀ p ys H', Same H H' → H' p = some (.tup ys) → Paired (RNd H') (nodesOf n d) ys → Q (.ref p) H'
def spAllAt : Sp := fun vs H Q _ => ∃ (n : Net) (r : Str) (v : V), vs = [v, .str r] ∧ NetAt H n v ∧ NetOk n ∧ ∀ u H', Same H H' → At H' (List.replicate n.1.length r) u → Q u H'
/-- adjacent in the grid -/
def AdjN (n : Net) (x y : Node) : Prop := ((x.1, y.1) ∈ n.2 ∨ (y.1, x.1) ∈ n.2) ∧ x.2 = y.2 ∨ x.1 = y.1 ∧ (y.2 = x.2 - 1 ∨ y.2 = x.2 + 1)
def spAdjacent : Sp := fun vs H Q _ => ∃ (n : Net) (x : Node) (v vx : V), vs = [v, vx] ∧ NetAt H n v ∧ NetOk n ∧ At H x vx ∧ x.1 ∈ n.1 ∧ ∀ p (l : List Node) ys H', Same H H' → H p = none → H' p = some (.lst ys) → Paired (RNd H') l ys → (∀ y, y ∈ l ↔ AdjN n x y) → l.length ≤ 42 → Q (.ref p) H'
section
variable {P : Program} {w : World} {K : PySem.W.Frag} {mg : Str → Option Value} {base : Heap}
theorem ok_all_at (T : Bt mg) (F : St0 K mg "all_at" sAllAt) : Df P w K mg base CX0 1 "all_at" ["network", "release"] spAllAt := by
  refine F.ok0 scAllAt (fun vs H Q E h => ?_) (fun _ _ _ _ _ _ us hl => match us, hl with | [_, _], _ => rfl) fun f cdv A outer s H vs Q E hr h => ?_
  · obtain ⟨n, r, v, rfl, _⟩ := h
    rfl
  obtain ⟨n, r, v, rfl, hn, no, q⟩ := h
  refine ⟨_, pss_one (ps_ret (pe_op (op_repA K) (pe_tup (pa_cons (pv 1) pa_nil)) (eLen K T (eT K (pv 0) pe_int)))), ?_⟩
  walk_at "nf"
  have hl : 1 ≤ n.1.length := by
    cases e : n.1 with
    | nil => exact absurd e no.ne
    | cons a b => simp
  refine ⟨by decide, fun p hp => r_p0 (hn.same (.new hp)) fun w hw => r_lenT' hw (r_rep (r := r) ?_ hl (Nat.le_trans no.len (by decide)) fun u H' s hu => q u H' ((Same.new hp).trans s) hu)⟩
  exact .new hp (al_str.mpr rfl)
theorem ok_nodes (T : Bt mg) (G : Df P w K mg base CX0 1 "neighbour_table" ["network"] spNeighbourTable) (F : St0 K mg "nodes" sNodes) : Df P w K mg base CX0 2 "nodes" ["network", "distance"] spNodes := by
  refine F.ok0 scNodes (fun vs H Q E h => ?_) (fun _ _ _ _ _ _ us hl => match us, hl with | [_, _], _ => rfl) fun f cdv A outer s H vs Q E hr h => ?_
  · obtain ⟨n, d, v, rfl, _⟩ := h
    rfl
  obtain ⟨n, d, v, rfl, hn, no, hd0, hd1, q⟩ := h
  refine ⟨_, pss_cons (ps_set (i := 2) scNodes.nd rfl (Or.inr rfl) (pe_df G hr pass0 (pa_cons (pv 0) pa_nil)))
    (pss_one (ps_ret (eTup K T (pe_lc2 (own := [("service", 3), ("level", 4)]) (vs1 := [4]) (g := gName 3) (g1 := gName 4) rfl scNodes.nd (piT K (eT K (pv 0) pe_int)) (blkOk_by (by rfl)) (by decide)
      (fun _ _ _ _ _ => pg_name (i := 3) scNodes.nd rfl (Or.inl rfl)) (fun _ _ _ _ _ => pts_one (pt_cmpR (opNeD K hr.units) (pe_dget (hu_of hr) (pv 2) (pv 3) (fun _ _ => rfl)) (pe_lst pa_nil) (nomark _)))
      (fun _ _ _ _ _ => pi_range2 rfl T.range (pa_cons pe_int (pa_cons (pv 1) pa_nil))) (fun _ _ _ _ _ => pg_name (i := 4) scNodes.nd rfl (Or.inl rfl)) (fun _ _ _ _ _ => pts_nil)
      (fun _ _ _ _ _ => pe_tup (pa_cons (pv 3) (pa_cons (pv 4) pa_nil))))))), ?_⟩
  walk_at "nf"
  refine ⟨n, v, rfl, hn, no, fun D t H1 s1 hD ht nb => r_p0 (hn.same s1) fun w0 hw0 => ?_⟩
  obtain ⟨p0, xs0, rfl, hp0, hx0⟩ := at_list.mp hw0
  refine lc2_tup (fun R h => h) (l := n.1) ⟨.inl hp0, hx0⟩ RNd stab_nd (fun s => !(adj n.2 s).isEmpty) (fun _ => irange 1 (d - 1).toNat) (fun s l => (s, l)) ?_
    (fun sv x D2 H2 IN Sk hs hD2 s2 hx inn sk => ?_) fun D2 ys H2 hD2 s2 hD2' hp => ?_
  · exact small1000 (Nat.le_trans (nodes_len no hd1) (by decide))
  · rw [at_str.mp hx]
    refine ⟨rfl, ?_⟩
    walk_at "nf"
    obtain ⟨e1, e2⟩ := nb.get hs
    obtain ⟨v1, e3, a, o, rfl, ha⟩ := (ht.tup s2.tupS).get e1
    have ee : (adj n.2 sv).isEmpty = (nbs t sv).isEmpty := by
      have hl := (nb.nb _ (gv_some e1)).length_eq
      cases q1 : nbs t sv with
      | nil =>
        rw [q1] at hl
        cases q2 : adj n.2 sv with
        | nil => rfl
        | cons a b => rw [q2] at hl; cases hl
      | cons a b =>
        rw [q1] at hl
        cases q2 : adj n.2 sv with
        | nil => rw [q2] at hl; cases hl
        | cons a b => rfl
    refine ⟨D, _, rfl, e3, by decide, fun e he => r_neNil (l := nbs t sv) (.inl (.inr ⟨o, by rw [upd_ne (ne_of_none ha he)]; exact ha⟩)) (al_str.mpr rfl) upd_same (fun a ha => (nbs_ok nb no (gv_some e1) a ha).1) ⟨_, rfl, ?_⟩⟩
    rw [← ee]
    cases q1 : (adj n.2 sv).isEmpty with
    | true => exact iteF' rfl (sk _ (.new he) (by rw [q1]; rfl))
    | false =>
      refine iteT' rfl ?_
      refine ⟨_, rfl, 1, d, rfl, ⟨by decide, by decide, by omega, by omega⟩, inn (by rw [q1]; rfl) _ _ _ Eq (RAt (α := Int)) (fun _ => True) (.new he) src_range (fun a b e => by subst e; exact .refl _) (fun _ _ _ => trivial) fun l y H6 R hl s6 t6 hy kp => ?_⟩
      rw [at_int.mp hy]
      refine ⟨rfl, ?_⟩
      walk_at "nf"
      exact ⟨by decide, fun p hp => kp _ _ (.new hp) ⟨p, rfl, upd_same⟩⟩
  · exact ⟨D2, ys, rfl, .inl ⟨.of hD2', fun p hp' => q p ys _ ((s1.trans s2).snew hp') upd_same (Paired.mapP hp fun b v q => stab_nd _ _ b v (Same.new hp').tupS q)⟩⟩
theorem ok_adjacent_to (T : Bt mg) (G : Df P w K mg base CX0 3 "neighbours" ["network", "service"] spNeighbours) (F : St0 K mg "adjacent_to" sAdjacent) : Df P w K mg base CX0 4 "adjacent_to" ["network", "node"] spAdjacent := by
  refine F.ok0 scAdj (fun vs H Q E h => ?_) (fun _ _ _ _ _ _ us hl => match us, hl with | [_, _], _ => rfl) fun f cdv A outer s H vs Q E hr h => ?_
  · obtain ⟨n, x, v, vx, rfl, _⟩ := h
    rfl
  obtain ⟨n, x, v, vx, rfl, hn, no, hx, hxn, q⟩ := h
  refine ⟨_, pss_cons (ps_asg (pv 1) (pg_tup rfl (pgs_cons (pg_name (i := 2) scAdj.nd rfl (Or.inl rfl)) (pgs_cons (pg_name (i := 3) scAdj.nd rfl (Or.inr rfl)) pgs_nil))))
    (pss_one (ps_ret (pe_op op_cat (pe_lc (own := [("other", 4)]) (g := gName 4) rfl scAdj.nd (piT K (pe_df G hr pass0 (pa_cons (pv 0) (pa_cons (pv 2) pa_nil)))) (blkOk_by (by rfl)) (fun _ _ _ _ _ => pg_name (i := 4) scAdj.nd rfl (Or.inl rfl)) (fun _ _ _ _ _ => pts_nil)
        (fun _ _ _ _ _ => pe_tup (pa_cons (pv 4) (pa_cons (pv 3) pa_nil))))
      (pe_lst (pa_cons (pe_tup (pa_cons (pv 2) (pa_cons (pe_op op_sub (pv 3) pe_int) pa_nil))) (pa_cons (pe_tup (pa_cons (pv 2) (pa_cons (pe_op op_add (pv 3) pe_int) pa_nil))) pa_nil)))))), ?_⟩
  walk_at "nf"
  obtain ⟨px, y1, y2, rfl, hpx, h1, h2⟩ := at_pair.mp (show At H (x.1, x.2) vx from hx)
  rw [at_str.mp h1, at_int.mp h2] at hpx
  refine ⟨px, _, rfl, .inl hpx, rfl, _, _, rfl, _, _, rfl, rfl, n, v, x.1, rfl, hn, no, hxn, fun pn nb H1 s1 hnb hnl hpn => ?_⟩
  obtain ⟨p0, xs0, e0, hp0, hx0⟩ := at_list.mp hpn
  cases e0
  refine lc_tup (fun R h => h) (l := nb) ⟨.inl hp0, hx0⟩ RNd stab_nd (fun _ => true) (fun o => (o, x.2)) (small64' hnl) (fun o y H2 R ho s2 hy kp dr => ?_) fun D ys H2 hD s2 hD' hp => ?_
  · rw [at_str.mp hy]
    refine ⟨rfl, ?_⟩
    walk_at "nf"
    exact ⟨by decide, fun p hp => kp _ _ (.new hp) rfl ⟨p, rfl, upd_same⟩⟩
  · rw [filter_true] at hp
    refine ⟨_, _, rfl, rfl, by decide, fun a1 ha1 => ⟨_, _, rfl, rfl, by decide, fun a2 ha2 => ⟨by decide, fun L hL => ?_⟩⟩⟩
    have t1 : Same H2 (upd H2 a1 (.tup [.str x.1, .int (x.2 - 1)])) := .new ha1
    have t2 : Same (upd H2 a1 (.tup [.str x.1, .int (x.2 - 1)])) (upd (upd H2 a1 (.tup [.str x.1, .int (x.2 - 1)])) a2 (.tup [.str x.1, .int (x.2 + 1)])) := .new ha2
    have t3 : Same (upd (upd H2 a1 (.tup [.str x.1, .int (x.2 - 1)])) a2 (.tup [.str x.1, .int (x.2 + 1)])) (upd (upd (upd H2 a1 (.tup [.str x.1, .int (x.2 - 1)])) a2 (.tup [.str x.1, .int (x.2 + 1)])) L (.lst [.ref a1, .ref a2])) := .new hL
    have q1 : RNd (upd H2 a1 (.tup [.str x.1, .int (x.2 - 1)])) (x.1, x.2 - 1) (.ref a1) := ⟨a1, rfl, upd_same⟩
    have q2 : RNd (upd (upd H2 a1 (.tup [.str x.1, .int (x.2 - 1)])) a2 (.tup [.str x.1, .int (x.2 + 1)])) (x.1, x.2 + 1) (.ref a2) := ⟨a2, rfl, upd_same⟩
    have hyl : ys.length ≤ 40 := by
      have := hp.length
      rw [List.length_map] at this
      omega
    refine ⟨D, L, ys, [.ref a1, .ref a2], rfl, rfl, t3 _ _ (t2 _ _ (t1 _ _ hD')), upd_same, Nat.le_of_lt (small1000 (by rw [List.length_cons, List.length_cons, List.length_nil]; omega)), fun p hp' => ?_⟩
    have s6 : Same H (upd _ p (.lst (ys ++ [.ref a1, .ref a2]))) := (((((s1.trans s2).trans t1).trans t2).trans t3).snew hp')
    refine q p (nb.map (fun o => (o, x.2)) ++ [(x.1, x.2 - 1), (x.1, x.2 + 1)]) _ _ s6 ((((((s1.trans s2).trans t1).trans t2).trans t3).free hp')) upd_same ?_ (fun y => ?_) ?_
    · have t4 := ((t1.trans t2).trans t3).trans (Same.new (o := .lst (ys ++ [.ref a1, .ref a2])) hp')
      exact pairedApp (Paired.mapP hp fun b v q => stab_nd _ _ b v t4.tupS q) (.cons (stab_nd _ _ _ _ ((t2.trans t3).trans (Same.new hp')).tupS q1) (.cons (stab_nd _ _ _ _ (t3.trans (Same.new hp')).tupS q2) .nil))
    · rw [List.mem_append, List.mem_map]
      unfold AdjN
      constructor
      · rintro (⟨o, ho, rfl⟩ | h)
        · exact .inl ⟨(hnb o).mp ho, rfl⟩
        · rw [List.mem_cons, List.mem_singleton] at h
          rcases h with rfl | rfl
          · exact .inr ⟨rfl, .inl rfl⟩
          · exact .inr ⟨rfl, .inr rfl⟩
      · rintro (⟨h, e⟩ | ⟨e, h⟩)
        · exact .inl ⟨y.1, (hnb y.1).mpr h, by rw [e]⟩
        · right
          rw [List.mem_cons, List.mem_singleton]
          rcases h with h | h
          · left; rw [e, ← h]
          · right; rw [e, ← h]
    · rw [List.length_append, List.length_map]
      show nb.length + 2 ≤ 42
      omega
end
end G3
end

/-! ## G3Pair0 -/
section
set_option Elab.async false
set_option linter.all false
set_option maxRecDepth 100000
set_option maxHeartbeats 4000000
local macro_rules | `(tactic| walk_at "nf") => `(tactic| simp only [L2.tRet, L2.tRetN, L2.tAndV, L2.tOrV, L2.tNotV, L2.tCB, L2.tCons, L2.tNil, L2.tVar, L2.tC, L2.tDIn, L2.tDNotIn, L2.tDGet, L2.tOp, L2.tUn, L2.tTest, L2.tB, L2.tIf, L2.tIfS, L2.tAnd, L2.tOr, L2.tNot, L2.tSeq, L2.tAsg, L2.gName, L2.tDrop, L2.tNext, L2.tCall, L2.tTup, L2.tLst, L2.tBM, L2.tBM0, L2.tSl, L2.tPart, L2.tNoPart, L2.sDPut, L2.tFld, L2.sFld, L2.tMeth, L2.tYes, L2.gTup, L2.gCons, L2.gNil, L2.tIsN, L2.tNotN, L2.tPar, L2.tPar3, L2.tDNewK, L2.tDisp, L2.tPairs, L2.tDGet1, StX.tStar, G3.lc2T_op, G3.lc2L_call, L2.tGThen, L2.tG0, L2.tPlain, L2.GEnds.at, L2.tGYield, L2.tCallG, L2.tListG, G3.tTupIx, G3.dcT_op, G3.tFrz, G3.dcI_frz, G3.lcI_frz, G3.lcY_frz, G3.lcI_call, G3.lcT_lit, G3.forT_lit, G3.lcL_call, G3.lcL_op, G3.lcL_dget, G3.lcT_call, G3.lcT_op, G3.lcT_dget, G3.forL_call, G3.forL_op, G3.forL_dget, G3.forT_call, G3.forT_op, G3.forT_dget, G3.ex_l1, G3.ex_l2, G3.ex_l3,
  G3.start_eq, G3.cxOf_K, G3.wipe_nil, G3.wipe_cons, List.map_cons, List.map_nil, List.nil_append, List.cons_append, List.append_nil, List.getElem?_cons_zero, List.getElem?_cons_succ, List.set_cons_zero, List.set_cons_succ, List.set_nil, List.length_cons, List.length_nil, List.replicate, Option.some.injEq, G3.ex_eq, Nat.reduceAdd, Nat.reduceSub, Nat.zero_add, List.replicate_succ, List.replicate_zero, true_and, if_true, if_false, Bool.false_eq_true, Nat.add_zero, Int.add_zero])
namespace G3
open PySem PySem.Spec PyProof.Rows L2

/-! ### the objects of a pairing -/
def nk (x : Node) : List Key := [.inr x.1, .inl x.2]
theorem nk_inj {x y : Node} (h : nk x = nk y) : x = y := by
  obtain ⟨a, b⟩ := x
  obtain ⟨c, d⟩ := y
  unfold nk at h
  injection h with h1 h2
  injection h2 with h3 h4
  exact Prod.ext (Sum.inr.inj h1) (Sum.inl.inj h3)
theorem RNd.key {H : Hp} {x : Node} {v : V} (h : RNd H x v) : ∃ p, v = .ref p ∧ H p = some (.tup ((nk x).map kV)) := h
abbrev KvT := List (List Key × V)
/-- what a dict with nodes as keys holds -/
theorem dgetN {H : Hp} {a : Addr} {kvs : KvT} {x : Node} {v : V} (e : Rd H a (.dT kvs)) (hx : RNd H x v) : DGet H a v (valV kvs (nk x)) := by
  obtain ⟨p, rfl, hp⟩ := hx.key
  exact .inr ⟨kvs, nk x, p, e, rfl, hp, rfl⟩
theorem dputN {H : Hp} {a : Addr} {kvs : KvT} {x : Node} {v w : V} (e : H a = some (.dT kvs)) (hx : RNd H x v) (hl : kvs.length < sizeLine) : DPut H a v w (upd H a (.dT (putK kvs (nk x) w))) := by
  obtain ⟨p, rfl, hp⟩ := hx.key
  exact .inr ⟨kvs, nk x, p, e, rfl, hp, hl, rfl⟩
/-- a set of nodes, as a dict -/
def snK (sn : List Node) : KvT := sn.map fun x => (nk x, V.bl true)
theorem snK_get {sn : List Node} {x : Node} : (valV (snK sn) (nk x)).isSome = decide (x ∈ sn) := by
  induction sn with
  | nil => simp [snK, valV]
  | cons a sn ih =>
    have e : snK (a :: sn) = (nk a, V.bl true) :: snK sn := rfl
    rw [e]
    by_cases h : a = x
    · rw [valV_pos (by rw [h])]; simp [h]
    · rw [valV_neg (fun z => h (nk_inj z)), ih]
      simp only [List.mem_cons, show (x = a) = False from eq_false (fun z => h z.symm), false_or]
theorem snK_new {sn : List Node} {x : Node} (h : x ∉ sn) : putK (snK sn) (nk x) (.bl true) = snK (sn ++ [x]) := by
  have hg := snK_get (sn := sn) (x := x)
  rw [decide_eq_false h] at hg
  rw [putK_new]
  · unfold snK; rw [List.map_append]; rfl
  · cases e : valV (snK sn) (nk x) with
    | none => rfl
    | some b => rw [e] at hg; cases hg
theorem snK_len {sn : List Node} : (snK sn).length = sn.length := by simp [snK]
/-- a map of nodes to nodes, as a dict -/
abbrev MM := List (Node × Node)
def putM (mm : MM) (y x : Node) : MM := if mm.any (fun p => decide (p.1 = y)) then mm.map (fun p => if p.1 = y then (p.1, x) else p) else mm ++ [(y, x)]
theorem gv_putM (mm : MM) (y x z : Node) : gv (putM mm y x) z = if z = y then some x else gv mm z := by
  unfold putM
  by_cases h : mm.any (fun p => decide (p.1 = y)) = true
  · rw [if_pos h]
    have hy : y ∈ mm.map (·.1) := by
      obtain ⟨p, hp, e⟩ := List.any_eq_true.mp h
      exact List.mem_map.mpr ⟨p, hp, of_decide_eq_true e⟩
    clear h
    by_cases hz : z = y
    · subst hz
      rw [if_pos rfl]
      induction mm with
      | nil => cases hy
      | cons p mm ih =>
        rw [List.map_cons, gv_cons]
        by_cases e : p.1 = z
        · rw [if_pos e, if_pos e]
        · rw [if_neg e, if_neg e]
          refine ih ?_
          rw [List.map_cons, List.mem_cons] at hy
          rcases hy with q | q
          · exact absurd q.symm e
          · exact q
    · rw [if_neg hz]
      clear hy
      induction mm with
      | nil => rfl
      | cons p mm ih =>
        rw [List.map_cons, gv_cons, gv_cons, ih]
        by_cases e : p.1 = y
        · rw [if_pos e, if_neg (fun q => hz (q.symm.trans e)), if_neg (fun q => hz (q.symm.trans e))]
        · rw [if_neg e]
  · rw [if_neg h]
    have hy : gv mm y = none := by
      rw [gv_none]
      intro hm
      obtain ⟨p, hp, e⟩ := List.mem_map.mp hm
      exact h (List.any_eq_true.mpr ⟨p, hp, decide_eq_true e⟩)
    by_cases hz : z = y
    · subst hz
      rw [if_pos rfl, gv_app_new hy]
    · rw [if_neg hz, gv_app_ne (fun q => hz q.symm)]
def MmK (H : Hp) (mm : MM) (kvs : KvT) : Prop := kvs.map (·.1) = mm.map (fun p => nk p.1) ∧ Paired (RNd H) (mm.map (·.2)) (kvs.map (·.2))
def MmAt (H : Hp) (mm : MM) (a : Addr) : Prop := ∃ kvs, H a = some (.dT kvs) ∧ MmK H mm kvs
theorem MmK.tup {H H' : Hp} {mm : MM} {kvs : KvT} (h : MmK H mm kvs) (k : TupS H H') : MmK H' mm kvs := ⟨h.1, Paired.mapP h.2 fun b v q => stab_nd _ _ b v k q⟩
theorem MmK.len {H : Hp} {mm : MM} {kvs : KvT} (h : MmK H mm kvs) : kvs.length = mm.length := by
  have := congrArg List.length h.1
  simpa using this
theorem MmK.get {H : Hp} {x : Node} : ∀ {mm : MM} {kvs : KvT}, MmK H mm kvs → (gv mm x = none → valV kvs (nk x) = none) ∧ ∀ y, gv mm x = some y → ∃ v, valV kvs (nk x) = some v ∧ RNd H y v
  | [], [], h => ⟨(fun _ => rfl), (fun y e => by cases e)⟩
  | [], q :: kvs, h => by cases h.1
  | p :: mm, [], h => by cases h.1
  | p :: mm, q :: kvs, h => by
    obtain ⟨h1, h2⟩ := h
    rw [List.map_cons, List.map_cons] at h1 h2
    obtain ⟨e1, e2⟩ := List.cons.inj h1
    cases h2 with
    | cons h3 h4 =>
      obtain ⟨i1, i2⟩ := MmK.get (x := x) ⟨e2, h4⟩
      rw [gv_cons]
      by_cases e : p.1 = x
      · rw [if_pos e, valV_pos (by rw [e1, e])]
        exact ⟨(fun z => by cases z), (fun y ey => by cases ey; exact ⟨_, rfl, h3⟩)⟩
      · rw [if_neg e, valV_neg (fun z => e (nk_inj (e1.symm.trans z)))]
        exact ⟨i1, i2⟩
theorem MmK.put {H : Hp} {y x : Node} {w : V} {mm : MM} {kvs : KvT} (h : MmK H mm kvs) (hx : RNd H x w) : MmK H (putM mm y x) (putK kvs (nk y) w) := by
  have hany : ∀ {mm : MM} {kvs : KvT}, MmK H mm kvs → kvs.any (fun kv => decide (kv.1 = nk y)) = mm.any (fun p => decide (p.1 = y)) := fun {mm kvs} h => by
    induction mm generalizing kvs with
    | nil =>
      cases kvs with
      | nil => rfl
      | cons a b => cases h.1
    | cons p mm ih =>
      cases kvs with
      | nil => cases h.1
      | cons q kvs =>
        obtain ⟨h1, h2⟩ := h
        rw [List.map_cons, List.map_cons] at h1 h2
        obtain ⟨e1, e2⟩ := List.cons.inj h1
        cases h2 with
        | cons h3 h4 =>
          rw [List.any_cons, List.any_cons, ih ⟨e2, h4⟩, e1]
          congr 1
          by_cases e : p.1 = y
          · rw [decide_eq_true e, decide_eq_true (by rw [e])]
          · rw [decide_eq_false e, decide_eq_false (fun z => e (nk_inj z))]
  unfold putM putK
  rw [hany h]
  by_cases ha : mm.any (fun p => decide (p.1 = y)) = true
  · rw [if_pos ha, if_pos ha]
    clear ha hany
    induction mm generalizing kvs with
    | nil =>
      cases kvs with
      | nil => exact h
      | cons a b => cases h.1
    | cons p mm ih =>
      cases kvs with
      | nil => cases h.1
      | cons q kvs =>
        obtain ⟨h1, h2⟩ := h
        rw [List.map_cons, List.map_cons] at h1 h2
        obtain ⟨e1, e2⟩ := List.cons.inj h1
        cases h2 with
        | cons h3 h4 =>
          obtain ⟨i1, i2⟩ := ih ⟨e2, h4⟩
          rw [List.map_cons, List.map_cons]
          by_cases e : p.1 = y
          · rw [if_pos e, if_pos (by rw [e1, e])]
            exact ⟨by rw [List.map_cons, List.map_cons, i1, e1], by rw [List.map_cons, List.map_cons]; exact .cons hx i2⟩
          · rw [if_neg e, if_neg (fun z => e (nk_inj (e1.symm.trans z)))]
            exact ⟨by rw [List.map_cons, List.map_cons, i1, e1], by rw [List.map_cons, List.map_cons]; exact .cons h3 i2⟩
  · rw [if_neg ha, if_neg ha]
    refine ⟨by rw [List.map_append, List.map_append, h.1]; rfl, ?_⟩
    rw [List.map_append, List.map_append]
    exact Paired.snoc h.2 hx
/-- the lists of neighbours by nodes, kept for good -/
def BesAt (H : Hp) (U : List Node) (nb : Node → List Node) (b : Addr) : Prop := ∃ ob kvs, H b = some (.frz ob (.dT kvs)) ∧ ∀ x ∈ U, ∃ l o ys, valV kvs (nk x) = some (.ref l) ∧ H l = some (.frz o (.lst ys)) ∧ Paired (RNd H) (nb x) ys
theorem BesAt.tup {H H' : Hp} {U : List Node} {nb : Node → List Node} {b : Addr} (h : BesAt H U nb b) (k : TupS H H') : BesAt H' U nb b := by
  obtain ⟨ob, kvs, h1, h2⟩ := h
  refine ⟨ob, kvs, k _ _ h1 rfl, fun x hx => ?_⟩
  obtain ⟨l, o, ys, e1, e2, e3⟩ := h2 x hx
  exact ⟨l, o, ys, e1, k _ _ e2 rfl, Paired.mapP e3 fun b v q => stab_nd _ _ b v k q⟩
/-- stays but for the objects at ps -/
def Keep (ps : List Addr) (H H' : Hp) : Prop := ∀ a o, a ∉ ps → H a = some o → H' a = some o
theorem Keep.refl {ps : List Addr} {H : Hp} : Keep ps H H := fun _ _ _ e => e
theorem Keep.trans {ps : List Addr} {H H1 H2 : Hp} (a : Keep ps H H1) (b : Keep ps H1 H2) : Keep ps H H2 := fun x o h e => b x o h (a x o h e)
theorem Keep.same {ps : List Addr} {H H' : Hp} (s : Same H H') : Keep ps H H' := fun a o _ e => s a o e
theorem Keep.upd {ps : List Addr} {H : Hp} {a : Addr} {o : HO} (h : a ∈ ps) : Keep ps H (upd H a o) := fun b u hb e => by rw [upd_ne (fun z => hb (by rw [z]; exact h))]; exact e
theorem Keep.tupS {ps : List Addr} {H H' : Hp} (k : Keep ps H H') (h : ∀ a ∈ ps, ∀ o, H a = some o → isSt o = false) : TupS H H' := fun a o e t => by
  by_cases hm : a ∈ ps
  · rw [h a hm o e] at t; cases t
  · exact k a o hm e
end G3
end

/-! ## G3Widen -/
section
set_option Elab.async false
set_option linter.all false
set_option maxRecDepth 100000
set_option maxHeartbeats 4000000
local macro_rules | `(tactic| walk_at "nf") => `(tactic| simp only [L2.tRet, L2.tRetN, L2.tAndV, L2.tOrV, L2.tNotV, L2.tCB, L2.tCons, L2.tNil, L2.tVar, L2.tC, L2.tDIn, L2.tDNotIn, L2.tDGet, L2.tOp, L2.tUn, L2.tTest, L2.tB, L2.tIf, L2.tIfS, L2.tAnd, L2.tOr, L2.tNot, L2.tSeq, L2.tAsg, L2.gName, L2.tDrop, L2.tNext, L2.tCall, L2.tTup, L2.tLst, L2.tBM, L2.tBM0, L2.tSl, L2.tPart, L2.tNoPart, L2.sDPut, L2.tFld, L2.sFld, L2.tMeth, L2.tYes, L2.gTup, L2.gCons, L2.gNil, L2.tIsN, L2.tNotN, L2.tPar, L2.tPar3, L2.tDNewK, L2.tDisp, L2.tPairs, L2.tDGet1, StX.tStar, G3.lc2T_op, G3.lc2L_call, L2.tGThen, L2.tG0, L2.tPlain, L2.GEnds.at, L2.tGYield, L2.tCallG, L2.tListG, G3.tTupIx, G3.dcT_op, G3.tFrz, G3.dcI_frz, G3.lcI_frz, G3.lcY_frz, G3.lcI_call, G3.lcT_lit, G3.forT_lit, G3.lcL_call, G3.lcL_op, G3.lcL_dget, G3.lcT_call, G3.lcT_op, G3.lcT_dget, G3.forL_call, G3.forL_op, G3.forL_dget, G3.forT_call, G3.forT_op, G3.forT_dget, G3.ex_l1, G3.ex_l2, G3.ex_l3,
  G3.start_eq, G3.cxOf_K, G3.wipe_nil, G3.wipe_cons, List.map_cons, List.map_nil, List.nil_append, List.cons_append, List.append_nil, List.getElem?_cons_zero, List.getElem?_cons_succ, List.set_cons_zero, List.set_cons_succ, List.set_nil, List.length_cons, List.length_nil, List.replicate, Option.some.injEq, G3.ex_eq, Nat.reduceAdd, Nat.reduceSub, Nat.zero_add, List.replicate_succ, List.replicate_zero, true_and, if_true, if_false, Bool.false_eq_true, Nat.add_zero, Int.add_zero])
namespace G3
open PySem PySem.Spec PyProof.Rows L2

abbrev meth (i j : Nat) : Stmt := inClass (top i) j
abbrev sPInit : Stmt := meth 50 0
abbrev sWiden : Stmt := meth 50 1
abbrev sMet : Stmt := meth 50 2
abbrev sCovering : Stmt := meth 50 3
theorem scWiden : FnScope ["self", "node", "seen", "other"] ["self", "node", "seen"] (defScope sWiden) := ⟨rfl, rfl, rfl, by decide +kernel, rfl, by decide +kernel, by decide +kernel⟩
/-- the class Pairing -/
structure PCls (K : PySem.W.Frag) (C : Addr) : Prop where
  cl : Cls K C
  some_ : NoAttr K C "some"
  beside : NoAttr K C "beside"
  left : NoAttr K C "left"
  mate_of : NoAttr K C "mate_of"
/-- the method m of the class at C stands as its text has it -/
def StM (K : PySem.W.Frag) (C : Addr) (m qual : Str) (st : Stmt) : Prop := ∃ f fd, Meth K C m f ∧ FunD K m qual (defArgs st) (defBody st) (defScope st) [] [] f fd
section
variable {P : Program} {w : World} {K : PySem.W.Frag} {mg : Str → Option Value} {base : Heap} {CX : CXT} {k : Nat} {m qual : Str} {C : Addr} {N ps : List Str} {sp : Sp} {st : Stmt}
theorem StM.ok0 (F : StM K C m qual st) (S : FnScope N ps (defScope st)) (len : ∀ vs H Q E, sp vs H Q E → vs.length = ps.length)
    (hb : ∀ (kV doc pm : Value) (an : Option Addr) (cdv ct : Value) (us : List Value), us.length = ps.length → bindArgs (PySem.W.fnOf m qual (defArgs st) (defBody st) (defScope st) .none kV doc pm an cdv ct) ⟨us, []⟩ = pure (ps.zip us))
    (hbody : ∀ (f : Addr) (cdv : Value) (A : Around) (outer : List Env) (s : Shared) (H : Hp) (vs : List V) (Q : VK) (E : XK), Room k (A.deeper (envOfC qual (defScope st) s.heap.objs.size f cdv)) → sp vs H Q E →
      ∃ t, PSs (cxOf CX0 P w K mg base N qual (defScope st) f cdv A outer s H E).nox (defBody st) t ∧ t { nx := fun _ H' => Q .non H', rt := Q } (start N vs) H) : Mf P w K mg base CX0 (k + 1) C m ps sp := by
  obtain ⟨f, fd, hm, F⟩ := F
  refine ⟨f, fd, hm, F.bindsN hb, F.ok S len fun cdv A outer s H vs Q E hr h => ?_⟩
  obtain ⟨t, h1, h2⟩ := hbody f cdv A outer s H vs Q E hr h
  exact ⟨t, h1.nox, h2⟩
theorem pe_mf {X : Cx} {j k : Nat} {E : XK} {o e : Expr} {es : List Expr} {ta : TE} {t : TA} {apos pos : Pos} {pl : Sem Bool} (G : Mf X.prog X.w X.K X.mg X.base CX j C m ps sp) (c : Cls X.K C) (hr : Room k X.A) (hx : Passes CX X E) (he : PE X o ta) (ha : PA X (e :: es) t) (hj : j ≤ k)
    (hst : starEach (e :: es) X.env = (false, eval e X.env) :: starEach es X.env := by rfl) (hpl : (backTo pos (starEach es X.env)).any (·.1) = false := by rfl)
    (ht : eval (.Call (.Attribute o m apos) (e :: es) [] pos) X.env = (do
      let ov ← eval o X.env
      standAt apos.atName
      let (f, first) ← holding [ov] (getMethod ov m pl)
      callWith pos f first (backTo pos (starEach (e :: es) X.env)) (backToKw pos (keywordEach [] X.env))) := by rfl) :
    PE X (.Call (.Attribute o m apos) (e :: es) [] pos) (tMeth C m sp [] E ta t) := by
  obtain ⟨f, fd, hm, hb, F⟩ := G
  exact pe_meth he c hm F (hr.mono hj) hb .nil hx ha hst hpl ht
theorem pe_mf0 {X : Cx} {j k : Nat} {E : XK} {o : Expr} {ta : TE} {apos pos : Pos} {pl : Sem Bool} (G : Mf X.prog X.w X.K X.mg X.base CX j C m ps sp) (c : Cls X.K C) (hr : Room k X.A) (hx : Passes CX X E) (he : PE X o ta) (hj : j ≤ k)
    (ht : eval (.Call (.Attribute o m apos) [] [] pos) X.env = (do
      let ov ← eval o X.env
      standAt apos.atName
      let (f, first) ← holding [ov] (getMethod ov m pl)
      callWith pos f first (backTo pos (starEach [] X.env)) (backToKw pos (keywordEach [] X.env))) := by rfl) :
    PE X (.Call (.Attribute o m apos) [] [] pos) (tMeth C m sp [] E ta tNil) := by
  obtain ⟨f, fd, hm, hb, F⟩ := G
  exact pe_meth0 he c hm F (hr.mono hj) hb .nil hx ht
end
theorem putM_keys {mm : MM} {y x : Node} {U : List Node} (nd : (mm.map (·.1)).Nodup) (hy : y ∈ U) (sub : ∀ z ∈ mm.map (·.1), z ∈ U) : ((putM mm y x).map (·.1)).Nodup ∧ ∀ z ∈ (putM mm y x).map (·.1), z ∈ U := by
  unfold putM
  by_cases h : mm.any (fun p => decide (p.1 = y)) = true
  · rw [if_pos h]
    have e : (mm.map (fun p => if p.1 = y then (p.1, x) else p)).map (·.1) = mm.map (·.1) := by
      rw [List.map_map]
      refine List.map_congr_left fun p _ => ?_
      show (if p.1 = y then (p.1, x) else p).1 = p.1
      by_cases hp : p.1 = y
      · rw [if_pos hp]
      · rw [if_neg hp]
    rw [e]
    exact ⟨nd, sub⟩
  · rw [if_neg h, List.map_append]
    have hn : y ∉ mm.map (·.1) := fun hm => by
      obtain ⟨p, hp, e⟩ := List.mem_map.mp hm
      exact h (List.any_eq_true.mpr ⟨p, hp, decide_eq_true e⟩)
    refine ⟨?_, fun z hz => ?_⟩
    · rw [List.nodup_append]
      refine ⟨nd, by simp, fun a ha b hb e => ?_⟩
      rw [List.map_cons, List.map_nil, List.mem_singleton] at hb
      rw [e, hb] at ha
      exact hn ha
    · rcases List.mem_append.mp hz with hz | hz
      · exact sub z hz
      · rw [List.map_cons, List.map_nil, List.mem_singleton] at hz
        rw [hz]; exact hy
/-- the pairing at p -/
structure PObj (H : Hp) (C p : Addr) (U : List Node) (nb : Node → List Node) (vs : V) (L B Mt : Addr) : Prop where
  ob : ∃ dx, H p = some (.ins C dx [("some", vs), ("beside", .ref B), ("left", .ref L), ("mate_of", .ref Mt)])
  bes : BesAt H U nb B
theorem PObj.keep {H H' : Hp} {C p : Addr} {U : List Node} {nb : Node → List Node} {vs : V} {L B Mt : Addr} {ps : List Addr} (h : PObj H C p U nb vs L B Mt) (k : Keep ps H H') (t : TupS H H') (hp : p ∉ ps) : PObj H' C p U nb vs L B Mt :=
  let ⟨dx, e⟩ := h.ob
  ⟨⟨dx, k _ _ hp e⟩, h.bes.tup t⟩
/-- widen: the fuel d -/
def spWiden (C : Addr) : Nat → Sp
  | 0 => fun _ _ _ _ => False
  | d + 1 => fun vs H Q _ => ∃ (p sd L B Mt : Addr) (U : List Node) (nb : Node → List Node) (Lft : Node → Prop) (va vx : V) (x : Node) (mm : MM) (sn : List Node), vs = [.ref p, vx, .ref sd] ∧ PObj H C p U nb va L B Mt ∧ MmAt H mm Mt ∧ H sd = some (.dT (snK sn)) ∧ RNd H x vx ∧ Mt ≠ sd ∧
    U.Nodup ∧ U.length ≤ 110 ∧ mm.length ≤ 110 ∧ (mm.map (·.1)).Nodup ∧ (∀ y ∈ mm.map (·.1), y ∈ U) ∧ x ∈ U ∧ Lft x ∧ (∀ x ∈ U, ∀ y ∈ nb x, y ∈ U) ∧ MOk nb Lft (gv mm) ∧ (∀ x, Lft x → x ∈ U) ∧ sn.Nodup ∧ (∀ y ∈ sn, y ∈ U) ∧ U.length - sn.length ≤ d ∧
    ∀ (b : Bool) (mm' : MM) (sn' : List Node) H', Keep [Mt, sd] H H' → MmAt H' mm' Mt → H' sd = some (.dT (snK sn')) → sn'.Nodup → (∀ y ∈ sn', y ∈ U) → mm'.length ≤ 110 → (mm'.map (·.1)).Nodup → (∀ y ∈ mm'.map (·.1), y ∈ U) →
      (b = true → Win nb Lft sn x (gv mm) (gv mm')) → (b = false → mm' = mm ∧ Lose nb sn sn' (nb x) (gv mm)) → Q (.bl b) H'
section
variable {P : Program} {w : World} {K : PySem.W.Frag} {mg : Str → Option Value} {base : Heap} {C : Addr}
theorem ok_widen0 (F : StM K C "widen" "Pairing.widen" sWiden) : Mf P w K mg base CX0 1 C "widen" ["self", "node", "seen"] (spWiden C 0) :=
  F.ok0 scWiden (fun vs H Q E h => h.elim) (fun _ _ _ _ _ _ us hl => match us, hl with | [_, _, _], _ => rfl) fun f cdv A outer s H vs Q E hr h => h.elim
theorem ok_widenS (T : PCls K C) (F : StM K C "widen" "Pairing.widen" sWiden) (d : Nat) (k : Nat) (G : Mf P w K mg base CX0 k C "widen" ["self", "node", "seen"] (spWiden C d)) : Mf P w K mg base CX0 (k + 1) C "widen" ["self", "node", "seen"] (spWiden C (d + 1)) := by
  refine F.ok0 scWiden (fun vs H Q E h => ?_) (fun _ _ _ _ _ _ us hl => match us, hl with | [_, _, _], _ => rfl) fun f cdv A outer s H vs Q E hr h => ?_
  · obtain ⟨p, sd, L, B, Mt, U, nb, Lft, va, vx, x, mm, sn, rfl, _⟩ := h
    rfl
  obtain ⟨p, sd, L, B, Mt, U, nb, Lft, va, vx, x, mm, sn, rfl, hp, hM, hS, hx, hMs, und, ulen, mlen, mnd, msub, hxU, hxL, hnb, mok, hLU, snd, ssub, hd, q⟩ := h
  refine ⟨_, pss_cons (ps_for PassesOwn.never rfl (piL K (pe_dget (hu_of hr) (pe_fld (pv 0) rfl) (pv 1) (fun _ _ => rfl))) (pg_name (i := 3) scWiden.nd rfl (Or.inl rfl))
      (pss_one (ps_if (pt_cmp (pc_dnotin (hu_of hr) (pv 3) (pv 2)))
        (pss_cons (ps_dput (hu_of hr) (pv 2) (pv 3) pe_bl rfl)
        (pss_one (ps_if (PW.pt (pw_or (pt_cmp (pc_dnotin (hu_of hr) (pv 3) (pe_fld (pv 0) rfl))) (pw_or1 (pt_val (pe_mf G T.cl hr pass0 (pv 0) (pa_cons (pe_dget (hu_of hr) (pe_fld (pv 0) rfl) (pv 3) (fun _ _ => rfl)) (pa_cons (pv 2) pa_nil)) (Nat.le_refl _))))))
          (pss_cons (ps_dput (hu_of hr) (pe_fld (pv 0) rfl) (pv 3) (pv 1) rfl) (pss_one (ps_ret pe_bl))) pss_nil))) pss_nil)))
    (pss_one (ps_ret pe_bl)), ?_⟩
  walk_at "nf"
  obtain ⟨dx, hob⟩ := id hp.ob
  obtain ⟨ob, kvB, hB, hBx⟩ := id hp.bes
  obtain ⟨lb, o, ys, e1, e2, e3⟩ := hBx x hxU
  obtain ⟨kvM, hMk, hMm⟩ := id hM
  have tS : ∀ {H'}, Keep [Mt, sd] H H' → TupS H H' := fun {H'} k => k.tupS fun a ha o ho => by
    rw [List.mem_cons, List.mem_singleton] at ha
    rcases ha with rfl | rfl
    · rw [hMk] at ho; cases ho; rfl
    · rw [hS] at ho; cases ho; rfl
  have pne : p ∉ [Mt, sd] := by
    rw [List.mem_cons, List.mem_singleton]
    rintro (e | e)
    · exact ne_of hob hMk (by intro z; cases z) e
    · exact ne_of hob hS (by intro z; cases z) e
  have hg := dgetN (.inr ⟨ob, hB⟩) hx
  rw [e1] at hg
  refine ⟨p, C, dx, _, _, rfl, hob, T.cl, T.beside, rfl, B, _, rfl, hg, ?_⟩
  refine for_listR (R := RNd) (l := nb x) (fun R h => h) ⟨ys, .inl (.inr ⟨o, e2⟩)⟩ (fun i σ' H' => ∃ u3 sn', σ' = [some (.ref p), some vx, some (.ref sd), u3] ∧ Keep [Mt, sd] H H' ∧ MmAt H' mm Mt ∧ H' sd = some (.dT (snK sn')) ∧ sn'.Nodup ∧ (∀ y ∈ sn', y ∈ U) ∧ Lose nb sn sn' ((nb x).take i) (gv mm) ∧ sn.length ≤ sn'.length)
    (fun i σ' H' ⟨_, _, _, kp, _⟩ => ⟨.inl (.inr ⟨o, tS kp _ _ e2 rfl⟩), Paired.mapP e3 fun b v q => stab_nd _ _ b v (tS kp) q⟩) ⟨none, sn, rfl, .refl, hM, hS, snd, ssub, lose_start, Nat.le_refl _⟩ (fun i y vy σ' H1 hy hpv hvy => ?_) fun σ' H1 hpv => ?_
  · obtain ⟨u3, sn1, rfl, k1, m1, s1, nd1, sub1, lose1, len1⟩ := hpv
    have hyn : y ∈ nb x := List.mem_of_getElem? hy
    have hyU : y ∈ U := hnb x hxU y hyn
    walk_at "nf"
    have tk : (nb x).take (i + 1) = (nb x).take i ++ [y] := by rw [List.take_add_one, hy]; rfl
    refine ⟨sd, _, rfl, dgetN (.inl s1) hvy, _, rfl, ?_⟩
    rw [snK_get]
    by_cases hin : y ∈ sn1
    · rw [decide_eq_true hin]
      refine iteF' rfl ⟨_, sn1, rfl, k1, m1, s1, nd1, sub1, ?_, len1⟩
      rw [tk]
      exact lose_old lose1 hin
    · rw [decide_eq_false hin]
      have hl1 : sn1.length ≤ 110 := Nat.le_trans (nodup_len nd1 sub1) ulen
      refine iteT' rfl ⟨sd, _, rfl, dputN s1 hvy (by rw [snK_len]; exact small1000 (Nat.le_trans hl1 (by decide))), ?_⟩
      rw [snK_new hin]
      have hMsd : Mt ≠ sd := hMs
      have k2 : Keep [Mt, sd] H (upd H1 sd (.dT (snK (sn1 ++ [y])))) := k1.trans (.upd (by simp))
      have ob2 := k2 _ _ pne hob
      have t2 := tS k2
      obtain ⟨kv1, hm1, hk1⟩ := m1
      have hm2 : upd H1 sd (.dT (snK (sn1 ++ [y]))) Mt = some (.dT kv1) := by rw [upd_ne hMsd]; exact hm1
      have tt : TupS H1 (upd H1 sd (.dT (snK (sn1 ++ [y])))) := .dT s1
      have hk2 := hk1.tup tt
      have hvy2 := stab_nd _ _ _ _ tt hvy
      have hvx2 := stab_nd _ _ _ _ t2 hx
      have hsd2 : upd H1 sd (.dT (snK (sn1 ++ [y]))) sd = some (.dT (snK (sn1 ++ [y]))) := upd_same
      generalize upd H1 sd (.dT (snK (sn1 ++ [y]))) = H2 at k2 ob2 t2 hm2 tt hk2 hvy2 hvx2 hsd2
      have nd2 : (sn1 ++ [y]).Nodup := by
        rw [List.nodup_append]
        exact ⟨nd1, by simp, fun a ha b hb e => by rw [List.mem_singleton.mp hb] at e; rw [e] at ha; exact hin ha⟩
      have sub2 : ∀ z ∈ sn1 ++ [y], z ∈ U := fun z hz => by
        rcases List.mem_append.mp hz with hz | hz
        · exact sub1 z hz
        · rw [List.mem_singleton.mp hz]; exact hyU
      have hl2 : sn1.length + 1 ≤ U.length := by
        have := nodup_len nd2 sub2
        simpa using this
      have hg2 := dgetN (.inl hm2) hvy2
      have t23 : ∀ a ∈ [Mt, sd], ∀ o, H2 a = some o → isSt o = false := fun a ha o ho => by
        rw [List.mem_cons, List.mem_singleton] at ha
        rcases ha with rfl | rfl
        · rw [hm2] at ho; cases ho; rfl
        · rw [hsd2] at ho; cases ho; rfl
      have put : ∀ {H3 : Hp} {mm' : MM} {sn' : List Node}, Keep [Mt, sd] H H3 → MmAt H3 mm' Mt → H3 sd = some (.dT (snK sn')) → sn'.Nodup → (∀ y ∈ sn', y ∈ U) → mm'.length ≤ 110 → (mm'.map (·.1)).Nodup → (∀ y ∈ mm'.map (·.1), y ∈ U) → RNd H3 y vy → Win nb Lft sn x (gv mm) (mset (gv mm') y x) →
          ∃ a C_1 dx fs v, V.ref p = V.ref a ∧ H3 a = some (HO.ins C_1 dx fs) ∧ Cls K C_1 ∧ NoAttr K C_1 "mate_of" ∧ List.lookup (Str.ofString "mate_of") fs = some v ∧ ∃ a H4, v = V.ref a ∧ DPut H3 a vy vx H4 ∧ Q (V.bl true) H4 := fun {H3 mm' sn'} k3 m3 s3 nd3 sub3 l3 mnd3 msub3 hvy3 W => by
        obtain ⟨kv3, hm3, hk3⟩ := m3
        have t3 := tS k3
        have hvx3 := stab_nd _ _ _ _ t3 hx
        have e : gv (putM mm' y x) = mset (gv mm') y x := funext fun z => gv_putM mm' y x z
        have kM : Keep [Mt, sd] H3 (upd H3 Mt (.dT (putK kv3 (nk y) vx))) := .upd (by simp)
        obtain ⟨pk1, pk2⟩ := putM_keys mnd3 hyU msub3
        refine ⟨p, C, dx, _, _, rfl, k3 _ _ pne hob, T.cl, T.mate_of, rfl, Mt, _, rfl, dputN hm3 hvy3 (by rw [hk3.len]; exact small1000 (Nat.le_trans l3 (by decide))), q true (putM mm' y x) sn' _ (k3.trans kM) ⟨_, upd_same, (hk3.put hvx3).tup (.dT hm3)⟩ (by rw [upd_ne (Ne.symm hMsd)]; exact s3) nd3 sub3 ?_ pk1 pk2 (fun _ => by rw [e]; exact W) (fun h => by cases h)⟩
        have := nodup_len pk1 pk2
        rw [List.length_map] at this
        omega
      cases hgy : gv mm y with
      | none =>
        rw [hk2.get.1 hgy] at hg2
        refine ⟨p, C, dx, _, _, rfl, ob2, T.cl, T.mate_of, rfl, Mt, _, rfl, hg2, _, rfl, iteT' rfl (put k2 ⟨kv1, hm2, hk2⟩ hsd2 nd2 sub2 mlen mnd msub hvy2 (win_free lose1.sub hin hyn hgy))⟩
      | some m =>
        obtain ⟨vm, em, hvm⟩ := hk2.get.2 m hgy
        rw [em] at hg2
        refine ⟨p, C, dx, _, _, rfl, ob2, T.cl, T.mate_of, rfl, Mt, _, rfl, hg2, _, rfl, iteF' rfl ⟨p, dx, _, rfl, ob2, rfl, p, C, dx, _, _, rfl, ob2, T.cl, T.mate_of, rfl, Mt, _, rfl, hg2, ?_⟩⟩
        obtain ⟨mL, mN⟩ := mok y m hgy
        cases d with
        | zero => omega
        | succ d =>
          refine ⟨p, sd, L, B, Mt, U, nb, Lft, va, vm, m, mm, sn1 ++ [y], rfl, ⟨⟨dx, ob2⟩, hp.bes.tup t2⟩, ⟨kv1, hm2, hk2⟩, hsd2, hvm, hMs, und, ulen, mlen, mnd, msub, hLU m mL, mL, hnb, mok, hLU, nd2, sub2, by rw [List.length_append, List.length_singleton]; omega, fun b mm' sn' H3 k3 m3 s3 nd3 sub3 l3 mnd3 msub3 hw hlo => ⟨_, rfl, ?_⟩⟩
          cases b with
          | true => exact iteT' rfl (put (k2.trans k3) m3 s3 nd3 sub3 l3 mnd3 msub3 (stab_nd _ _ _ _ (k3.tupS t23) hvy2) (win_rec lose1.sub hin hyn hgy (hw rfl)))
          | false =>
            obtain ⟨e, lo⟩ := hlo rfl
            subst e
            refine iteF' rfl ⟨_, sn', rfl, k2.trans k3, m3, s3, nd3, sub3, ?_, ?_⟩
            · rw [tk]
              exact lose_rec lose1 hgy lo
            · have := nodup_len nd2 lo.sub
              rw [List.length_append, List.length_singleton] at this
              omega
  · obtain ⟨u3, sn1, rfl, k1, m1, s1, nd1, sub1, lose1, len1⟩ := hpv
    rw [List.take_length] at lose1
    exact q false mm sn1 H1 k1 m1 s1 nd1 sub1 mlen mnd msub (fun h => by cases h) fun _ => ⟨rfl, lose1⟩
end
end G3
end

/-! ## G3Vals -/
section
set_option Elab.async false
set_option linter.all false
set_option maxRecDepth 100000
set_option maxHeartbeats 4000000
/-! list(d.values()), the keys tuples. -/
namespace G3
open PySem PySem.Spec PyProof.Rows L2
def tListVals (td : TE) : TE := fun σ H Q => td σ H fun x H1 => ∃ a kvs, x = .ref a ∧ H1 a = some (.dT kvs) ∧ ∀ p, H1 p = none → Q (.ref p) (upd H1 p (.lst (kvs.map (·.2))))
theorem kt_vals {H : Hp} : ∀ {kvs : List (List Key × V)} {xs : List (List Key × Addr × Value)}, Paired (fun p q => p.1 = q.1 ∧ H q.2.1 = some (.tup (p.1.map kV)) ∧ RelV p.2 q.2.2) kvs xs → Vals (kvs.map (·.2)) (xs.map (·.2.2))
  | _, _, .nil => .nil
  | _, _, .cons h t => .cons h.2.2 (kt_vals t)
section
variable {X : Cx} {o : Expr} {td : TE} {p apos mpos q : Pos}
theorem pe_listVals (T : Bt X.mg) (hc : X.calm = true) (hd : PE X o td) (hg : Gl X "list" := by rfl) (hbase : attributeBase o "values" X.env (eval o X.env) = eval o X.env := by rfl) (hline : (apos.endLine == mpos.line) = true := by rfl)
    (hse : starEach [Expr.Call (.Attribute o "values" apos) [] [] mpos] X.env = (false, eval (Expr.Call (.Attribute o "values" apos) [] [] mpos) X.env) :: starEach [] X.env := by rfl) :
    PE X (.Call (.Name "list" p) [.Call (.Attribute o "values" apos) [] [] mpos] [] q) (tListVals td) := by
  refine ⟨fun pins s σ H Q I h => ?_⟩
  refine Call_ (ld_blt I hg T.list PyProof.Rows.boot_list (PyProof.Rows.callWith_type1 ?_ hse rfl))
  refine Calls.spliced_cons ?_
  refine wpAny_Call_method0_late hbase hline (thn (hd.run pins s σ H _ I h) fun v s1 ⟨x, H1, I1, r1, a, kvs, ex, ha, q⟩ => ?_)
  subst ex
  cases r1
  obtain ⟨hz, hsys, xs, rel, ob, es, ep, ho, hx, hdat, hes, hkey, hnd⟩ := dt_of I1.hok ha
  refine ⟨"dict", "dict.values", F.plainAttrs_dict, F.slot_dict_values, F.type_dict_values, ⟨ob, ho, hx.1⟩, fun b e => ?_, Calls.callWith_builtin rfl (PySem.evalArgs_none ?_)⟩
  · cases e
    exact ⟨ob, ho, hx.2.1⟩
  refine call_meetsIn F.slot_dict_values ⟨ob, ho, hx.1⟩ F.entry_dict_values (F.args_dict_values_1 _) (meets_dict_values_raw a hsys) ⟨⟨es, ep, ob, ho, hx, hdat⟩, ?_⟩
  refine Calls.spliced_nil ?_
  have k1 : ∀ b u, s1.heap.get? b = some u → (s1.heap.push { cls := .type "dict_values", data := .fields #[.ref a] }).get? b = some u := fun b u e => Heap.get?_push_of_some _ e
  have I2 : Inv X pins σ H1 { s1 with heap := s1.heap.push { cls := .type "dict_values", data := .fields #[.ref a] } } := I1.kept (t' := s1.toks) k1
  have hsz : es.size = xs.length := by rw [← Array.length_toList, hes, List.length_map]
  have hlen := Paired.length rel
  refine PySem.W.kdl_call (s := { s1 with heap := s1.heap.push { cls := .type "dict_values", data := .fields #[.ref a] } }) (KdlSrc.rawValues (prog := X.prog) (w := X.w) (r := s1.heap.objs.size) (d := a) (es := es) (ep := ep)) (I.ok.hd hc) ⟨⟨_, Heap.get?_push_size _ rfl, rfl, rfl⟩, ob, k1 _ _ ho, hx, hdat⟩ (by rw [hsz, ← hlen]; exact hz) fun h' tk acc c hk hD hacc => ?_
  have hvals : acc.toList = xs.map (·.2.2) := by
    refine List.ext_getElem? fun j => ?_
    rw [Array.getElem?_toList, List.getElem?_map]
    cases ej : acc[j]? with
    | none =>
      have : acc.size ≤ j := by simpa using ej
      rw [hacc.1, hsz] at this
      rw [List.getElem?_eq_none this]; rfl
    | some u =>
      obtain ⟨hj, hu⟩ := hacc.2 j u ej
      have e2 : es[j]? = some es[j] := Array.getElem?_eq_getElem hj
      rw [entry_at hes] at e2
      cases ex : xs[j]? with
      | none => rw [ex] at e2; cases e2
      | some q =>
        rw [ex] at e2
        have e3 := Option.some.inj e2
        rw [hu, ← e3]; rfl
  have new : ObjOk X.prog X.w (upd H1 (s1.heap.push { cls := .type "dict_values", data := .fields #[.ref a] }).objs.size (.lst (kvs.map (·.2)))) h' (s1.heap.push { cls := .type "dict_values", data := .fields #[.ref a] }).objs.size (.lst (kvs.map (·.2))) := by
    refine ⟨by rw [List.length_map]; exact hz, xs.map (·.2.2), c, kt_vals rel, ?_⟩
    rw [hD]
    congr 2
    rw [← hvals]
  exact ⟨.ref _, _, I2.laid (t' := tk) hk (Nat.le_refl _) new, rfl, q _ (I2.hok.fresh (Nat.le_refl _))⟩
end
end G3
end

/-! ## G3Dcn -/
section
set_option Elab.async false
set_option linter.all false
set_option maxRecDepth 100000
set_option maxHeartbeats 4000000
local macro_rules | `(tactic| walk_at "nf") => `(tactic| simp only [L2.tRet, L2.tRetN, L2.tAndV, L2.tOrV, L2.tNotV, L2.tCB, L2.tCons, L2.tNil, L2.tVar, L2.tC, L2.tDIn, L2.tDNotIn, L2.tDGet, L2.tOp, L2.tUn, L2.tTest, L2.tB, L2.tIf, L2.tIfS, L2.tAnd, L2.tOr, L2.tNot, L2.tSeq, L2.tAsg, L2.gName, L2.tDrop, L2.tNext, L2.tCall, L2.tTup, L2.tLst, L2.tBM, L2.tBM0, L2.tSl, L2.tPart, L2.tNoPart, L2.sDPut, L2.tFld, L2.sFld, L2.tMeth, L2.tYes, L2.gTup, L2.gCons, L2.gNil, L2.tIsN, L2.tNotN, L2.tPar, L2.tPar3, L2.tDNewK, L2.tDisp, L2.tPairs, L2.tDGet1, StX.tStar, G3.lc2T_op, G3.lc2L_call, L2.tGThen, L2.tG0, L2.tPlain, L2.GEnds.at, L2.tGYield, L2.tCallG, L2.tListG, G3.tTupIx, G3.dcT_op, G3.tFrz, G3.dcI_frz, G3.lcI_frz, G3.lcY_frz, G3.lcI_call, G3.lcT_lit, G3.forT_lit, G3.lcL_call, G3.lcL_op, G3.lcL_dget, G3.lcT_call, G3.lcT_op, G3.lcT_dget, G3.forL_call, G3.forL_op, G3.forL_dget, G3.forT_call, G3.forT_op, G3.forT_dget, G3.ex_l1, G3.ex_l2, G3.ex_l3,
  G3.start_eq, G3.cxOf_K, G3.wipe_nil, G3.wipe_cons, List.map_cons, List.map_nil, List.nil_append, List.cons_append, List.append_nil, List.getElem?_cons_zero, List.getElem?_cons_succ, List.set_cons_zero, List.set_cons_succ, List.set_nil, List.length_cons, List.length_nil, List.replicate, Option.some.injEq, G3.ex_eq, Nat.reduceAdd, Nat.reduceSub, Nat.zero_add, List.replicate_succ, List.replicate_zero, true_and, if_true, if_false, Bool.false_eq_true, Nat.add_zero, Int.add_zero])
namespace G3
open PySem PySem.Spec PyProof.Rows L2

/-- {node: .. for node in ..}, no turn changes what stood -/
theorem dcn_pure {β : Type} {J : It} {l : List Node} {H1 : Hp} {G : Hp → Prop} {C : Hp → Hp → Prop} (w : Src C RNd J l G) (hC : ∀ a b, C a b → Same a b) (hG : ∀ H, Same H1 H → G H) (Rb : Rel β) (hb : Stab Rb) (f : Node → β) (hl : l.length < sizeLine) (nd : l.Nodup)
    {g : TG} {tt : TT} {tk tv : TE} {vs : List Nat} {σ : L2.St} {Q : VK}
    (step : ∀ (a : Node) (x : V) (H2 : Hp) (R : Option (V × V) → Hp → Prop), a ∈ l → Same H1 H2 → RNd H2 a x → (∀ vk z H4, Same H2 H4 → RNd H4 a vk → Rb H4 (f a) z → R (some (vk, z)) H4) →
      g x (wipe σ vs) H2 fun σ2 H3 => wipe σ2 vs = wipe σ vs ∧ tt σ2 H3 fun b H4 => if b = true then tk σ2 H4 (fun y H5 => tv σ2 H5 fun z H6 => R (some (y, z)) H6) else R none H4)
    (fin : ∀ D kvs H', H1 D = none → Same H1 H' → H' D = some (.dT kvs) → kvs.map (·.1) = l.map nk → Paired (Rb H') (l.map f) (kvs.map (·.2)) → Q (.ref D) H') :
    ∀ D, H1 D = none → ∃ W : Nat → Nat → Hp → Prop, (∃ m, W 0 m (upd H1 D (.dT []))) ∧ ∀ i m H, W i m H →
      (J.stop i H ∧ Q (.ref D) H) ∨ (J.go i H ∧ ∃ Nx : Hp → Prop, (∀ H', Nx H' → ∃ m', m' < m ∧ W (i + 1) m' H') ∧ ∀ x H', J.yld i H x H' → g x (wipe σ vs) H' fun σ2 H2 => wipe σ2 vs = wipe σ vs ∧ tt σ2 H2 fun b H3 =>
        if b = true then tk σ2 H3 fun y H4 => tv σ2 H4 fun z H5 => ∃ H6, DPut H5 D y z H6 ∧ Nx H6 else Nx H3) := by
  intro D hD
  let Iv : Nat → Hp → Prop := fun i H => Same H1 H ∧ ∃ kvs, H D = some (.dT kvs) ∧ kvs.map (·.1) = (l.take i).map nk ∧ Paired (Rb H) ((l.take i).map f) (kvs.map (·.2))
  refine ⟨fun i m H => m = l.length - i ∧ i ≤ l.length ∧ Iv i H, ⟨l.length, by simp, Nat.zero_le _, Same.new hD, [], upd_same, rfl, .nil⟩, ?_⟩
  rintro i m H ⟨rfl, hi, s, kvs, hd, hk, hp⟩
  by_cases hlt : i < l.length
  · refine .inr ⟨w.goes i H hlt (hG H s), fun H' => Iv (i + 1) H', fun H' p' => ⟨l.length - (i + 1), by omega, rfl, hlt, p'⟩, fun x H' y => ?_⟩
    obtain ⟨s2, a, ea, ha⟩ := w.yields i H x H' hlt (hG H s) y
    have s2 := hC _ _ s2
    have hlen : kvs.length = i := by
      have := congrArg List.length hk
      rw [List.length_map, List.length_map, List.length_take] at this
      omega
    have ht : l.take (i + 1) = l.take i ++ [a] := by rw [List.take_add_one, ea]; rfl
    refine step a x H' (fun oy H4 => match oy with
      | some (y, z) => ∃ H6, DPut H4 D y z H6 ∧ Iv (i + 1) H6
      | none => Iv (i + 1) H4) (List.mem_of_getElem? ea) (s.trans s2) ha fun vk z H4 s4 hvk hz => ?_
    have s24 := s2.trans s4
    have h4 : H4 D = some (.dT kvs) := s24 _ _ hd
    have hkn : valV kvs (nk a) = none := by
      cases e : valV kvs (nk a) with
      | none => rfl
      | some b =>
        have hm : nk a ∈ kvs.map (·.1) := valV_in e
        rw [hk] at hm
        obtain ⟨c, hc1, hc2⟩ := List.mem_map.mp hm
        rw [nk_inj hc2] at hc1
        have n2 : (l.take (i + 1)).Nodup := nd.sublist (List.take_sublist _ _)
        rw [ht, List.nodup_append] at n2
        exact absurd rfl (n2.2.2 a hc1 a (by simp))
    refine ⟨_, dputN h4 hvk (by omega), ((s.trans s2).trans s4).put hD, putK kvs (nk a) z, upd_same, ?_, ?_⟩
    · rw [putK_new z hkn, List.map_append, hk, ht, List.map_append]; rfl
    · rw [putK_new z hkn, List.map_append, ht, List.map_append]
      have k : TupS H4 (upd H4 D (.dT (kvs ++ [(nk a, z)]))) := .dT h4
      exact Paired.snoc (Paired.mapP hp fun b v q => hb _ _ b v (s24.tupS.trans k) q) (hb _ _ _ _ k hz)
  · have e : i = l.length := by omega
    subst e
    rw [List.take_length] at hk hp
    exact .inl ⟨w.stops H (hG H s), fin D kvs H hD s hd hk hp⟩
theorem src_tupR {α : Type} {K : PySem.W.Frag} {p : Addr} {xs : List V} {R : Rel α} {l : List α} : Src Eq R (Itt K p) l (fun H => SqT K H p xs ∧ Paired (R H) l xs) := by
  refine ⟨fun i H' hi g => ⟨xs, xs[i]'(by have := g.2.length; omega), g.1, by have := g.2.length; simp [show i < xs.length by omega]⟩, fun H' g => ⟨xs, g.1, by have := g.2.length; omega⟩, fun i H' x H2 hi g y => ?_⟩
  obtain ⟨rfl, y⟩ := y
  obtain ⟨a, e1, e2⟩ := paired_get g.2 (y xs g.1)
  exact ⟨rfl, a, e1, e2⟩
section
variable {α β : Type} {K : PySem.W.Frag} {H H1 : Hp} {tl : TE} {p : Addr} {xs : List V} {l : List Node} {g : TG} {tt : TT} {te tk tv : TE} {vs : List Nat} {σ : L2.St} {Q : VK} {tu : TS} {D : Ends}
theorem dcn_tup (hsrc : ∀ R : V → Hp → Prop, R (.ref p) H1 → tl σ H R) (hl : SqT K H1 p xs) (hx : Paired (RNd H1) l xs) (Rb : Rel β) (hb : Stab Rb) (f : Node → β) (hn : l.length < sizeLine) (nd : l.Nodup)
    (step : ∀ (a : Node) (x : V) (H2 : Hp) (R : Option (V × V) → Hp → Prop), a ∈ l → Same H1 H2 → RNd H2 a x → (∀ vk z H4, Same H2 H4 → RNd H4 a vk → Rb H4 (f a) z → R (some (vk, z)) H4) →
      g x (wipe σ vs) H2 fun σ2 H3 => wipe σ2 vs = wipe σ vs ∧ tt σ2 H3 fun b H4 => if b = true then tk σ2 H4 (fun y H5 => tv σ2 H5 fun z H6 => R (some (y, z)) H6) else R none H4)
    (fin : ∀ D kvs H', H1 D = none → Same H1 H' → H' D = some (.dT kvs) → kvs.map (·.1) = l.map nk → Paired (Rb H') (l.map f) (kvs.map (·.2)) → Q (.ref D) H') : tDcg (.dT []) (iTup K tl) g tt tk tv vs σ H Q :=
  hsrc _ ⟨p, rfl, ⟨xs, hl⟩, dcn_pure (G := fun H => SqT K H p xs ∧ Paired (RNd H) l xs) (C := Eq) src_tupR (fun a b e => by subst e; exact .refl _) (fun H s => ⟨sqT_tup hl s.tupS, Paired.mapP hx fun b v q => stab_nd _ _ b v s.tupS q⟩) Rb hb f hn nd step fin⟩
theorem dcn_list (hsrc : ∀ R : V → Hp → Prop, R (.ref p) H1 → tl σ H R) (hl : SqL K H1 p xs) (hx : Paired (RNd H1) l xs) (Rb : Rel β) (hb : Stab Rb) (f : Node → β) (hn : l.length < sizeLine) (nd : l.Nodup)
    (step : ∀ (a : Node) (x : V) (H2 : Hp) (R : Option (V × V) → Hp → Prop), a ∈ l → Same H1 H2 → RNd H2 a x → (∀ vk z H4, Same H2 H4 → RNd H4 a vk → Rb H4 (f a) z → R (some (vk, z)) H4) →
      g x (wipe σ vs) H2 fun σ2 H3 => wipe σ2 vs = wipe σ vs ∧ tt σ2 H3 fun b H4 => if b = true then tk σ2 H4 (fun y H5 => tv σ2 H5 fun z H6 => R (some (y, z)) H6) else R none H4)
    (fin : ∀ D kvs H', H1 D = none → Same H1 H' → H' D = some (.dT kvs) → kvs.map (·.1) = l.map nk → Paired (Rb H') (l.map f) (kvs.map (·.2)) → Q (.ref D) H') : tDcg (.dT []) (iList K tl) g tt tk tv vs σ H Q :=
  hsrc _ ⟨p, rfl, ⟨xs, hl⟩, dcn_pure (G := GLR K p xs RNd l) (C := Eq) src_listR (fun a b e => by subst e; exact .refl _) (fun H s => ⟨s.seq hl, Paired.mapP hx fun b v q => stab_nd _ _ b v s.tupS q⟩) Rb hb f hn nd step fin⟩
theorem lc_tupR {RR : Rel α} {la : List α} (hsrc : ∀ R : V → Hp → Prop, R (.ref p) H1 → tl σ H R) (hl : SqT K H1 p xs) (hx : Paired (RR H1) la xs) (hR : Stab RR) (Rb : Rel β) (hb : Stab Rb) (keep : α → Bool) (f : α → β) (hn : la.length < sizeLine)
    (step : ∀ (a : α) (x : V) (H2 : Hp) (R' : Option V → Hp → Prop), a ∈ la → Same H1 H2 → RR H2 a x → (∀ y H4, Same H2 H4 → keep a = true → Rb H4 (f a) y → R' (some y) H4) → (∀ H4, Same H2 H4 → keep a = false → R' none H4) →
      g x (wipe σ vs) H2 fun σ2 H3 => wipe σ2 vs = wipe σ vs ∧ tt σ2 H3 fun b H4 => if b = true then te σ2 H4 (fun y H5 => R' (some y) H5) else R' none H4)
    (fin : ∀ D ys H', H1 D = none → Same H1 H' → H' D = some (.lst ys) → Paired (Rb H') ((la.filter keep).map f) ys → Q (.ref D) H') : tLc (iTup K tl) g tt te vs σ H Q :=
  hsrc _ ⟨p, rfl, ⟨xs, hl⟩, lc_pure (Ra := RR) (G := fun H => SqT K H p xs ∧ Paired (RR H) la xs) (C := Eq) src_tupR (fun a b e => by subst e; exact .refl _) (fun H s => ⟨sqT_tup hl s.tupS, Paired.mapP hx fun b v q => hR _ _ b v s.tupS q⟩) Rb hb keep f hn step fin⟩
end
section
variable {K : PySem.W.Frag} {g : TG} {tt : TT} {te tk tv : TE} {vs : List Nat} {σ : L2.St} {H : Hp} {Q : VK} {D : Ends} {tu : TS} {t : TE} {f : Str} {e0 : HO} {td ty : TE}
theorem lcL_fld : tLc (iList K (tFld K t f)) g tt te vs σ H Q = tFld K t f σ H fun x H1 => tLc (iList K (tK x H1)) g tt te vs σ H1 Q := rfl
theorem lcT_fld : tLc (iTup K (tFld K t f)) g tt te vs σ H Q = tFld K t f σ H fun x H1 => tLc (iTup K (tK x H1)) g tt te vs σ H1 Q := rfl
theorem forL_fld : tFor (iList K (tFld K t f)) g tu D σ H = tFld K t f σ H fun x H1 => tFor (iList K (tK x H1)) g tu D σ H1 := rfl
end
end G3
end

/-! ## G3Met -/
section
set_option Elab.async false
set_option linter.all false
set_option maxRecDepth 100000
set_option maxHeartbeats 4000000
local macro_rules | `(tactic| walk_at "nf") => `(tactic| simp only [L2.tRet, L2.tRetN, L2.tAndV, L2.tOrV, L2.tNotV, L2.tCB, L2.tCons, L2.tNil, L2.tVar, L2.tC, L2.tDIn, L2.tDNotIn, L2.tDGet, L2.tOp, L2.tUn, L2.tTest, L2.tB, L2.tIf, L2.tIfS, L2.tAnd, L2.tOr, L2.tNot, L2.tSeq, L2.tAsg, L2.gName, L2.tDrop, L2.tNext, L2.tCall, L2.tTup, L2.tLst, L2.tBM, L2.tBM0, L2.tSl, L2.tPart, L2.tNoPart, L2.sDPut, L2.tFld, L2.sFld, L2.tMeth, L2.tYes, L2.gTup, L2.gCons, L2.gNil, L2.tIsN, L2.tNotN, L2.tPar, L2.tPar3, L2.tDNewK, L2.tDisp, L2.tPairs, L2.tDGet1, StX.tStar, G3.lcL_fld, G3.lcT_fld, G3.forL_fld, G3.tListVals, G3.lc2T_op, G3.lc2L_call, L2.tGThen, L2.tG0, L2.tPlain, L2.GEnds.at, L2.tGYield, L2.tCallG, L2.tListG, G3.tTupIx, G3.dcT_op, G3.tFrz, G3.dcI_frz, G3.lcI_frz, G3.lcY_frz, G3.lcI_call, G3.lcT_lit, G3.forT_lit, G3.lcL_call, G3.lcL_op, G3.lcL_dget, G3.lcT_call, G3.lcT_op, G3.lcT_dget, G3.forL_call, G3.forL_op, G3.forL_dget, G3.forT_call, G3.forT_op, G3.forT_dget, G3.ex_l1, G3.ex_l2, G3.ex_l3,
  G3.start_eq, G3.cxOf_K, G3.wipe_nil, G3.wipe_cons, List.map_cons, List.map_nil, List.nil_append, List.cons_append, List.append_nil, List.getElem?_cons_zero, List.getElem?_cons_succ, List.set_cons_zero, List.set_cons_succ, List.set_nil, List.length_cons, List.length_nil, List.replicate, Option.some.injEq, G3.ex_eq, Nat.reduceAdd, Nat.reduceSub, Nat.zero_add, List.replicate_succ, List.replicate_zero, true_and, if_true, if_false, Bool.false_eq_true, Nat.add_zero, Int.add_zero])
namespace G3
open PySem PySem.Spec PyProof.Rows L2

theorem scMet : FnScope ["self", "held", "waiting", "found", "other", "mate", "node"] ["self"] (defScope sMet) := ⟨rfl, rfl, rfl, by decide +kernel, rfl, by decide +kernel, by decide +kernel⟩
theorem scCov : FnScope ["self", "found", "node"] ["self"] (defScope sCovering) := ⟨rfl, rfl, rfl, by decide +kernel, rfl, by decide +kernel, by decide +kernel⟩
theorem hu65 {A : Around} {k : Nat} (hr : Room k A) : A.units + 65 < cLine := by have := hr.un; omega
theorem nd_ok {U : List Node} (ok : ∀ x ∈ U, Enc.ok x.1) : ∀ x ∈ U, Enc.ok x := fun x hx => ⟨ok x hx, trivial⟩
theorem r_ninE {α : Type} [Enc α] [DecidableEq α] {H : Hp} {a : α} {l : List α} {x y : V} {Q : VK} (b : Bool) (hb : b = true ↔ a ∉ l) (h1 : At H a x) (h2 : SeqE H l y) (o1 : Enc.ok a) (o2 : ∀ b ∈ l, Enc.ok b) (q : Q (.bl b) H) (hd : Enc.dep α ≤ 60 := by decide) : rInE α true x y H Q := by
  refine ⟨a, l, h1, h2, o1, o2, hd, ?_⟩
  have e : (if true = true then !decide (a ∈ l) else decide (a ∈ l)) = b := by
    rw [if_pos rfl]
    by_cases h : a ∈ l
    · rw [decide_eq_true h]
      cases b with
      | false => rfl
      | true => exact absurd h (hb.mp rfl)
    · rw [decide_eq_false h, hb.mpr h]; rfl
  rw [e]; exact q
theorem r_iinE {α : Type} [Enc α] [DecidableEq α] {H : Hp} {a : α} {l : List α} {x y : V} {Q : VK} (b : Bool) (hb : b = true ↔ a ∈ l) (h1 : At H a x) (h2 : SeqE H l y) (o1 : Enc.ok a) (o2 : ∀ b ∈ l, Enc.ok b) (q : Q (.bl b) H) (hd : Enc.dep α ≤ 60 := by decide) : rInE α false x y H Q := by
  refine ⟨a, l, h1, h2, o1, o2, hd, ?_⟩
  have e : (if false = true then !decide (a ∈ l) else decide (a ∈ l)) = b := by
    rw [if_neg Bool.false_ne_true]
    by_cases h : a ∈ l
    · rw [decide_eq_true h, hb.mpr h]
    · rw [decide_eq_false h]
      cases b with
      | false => rfl
      | true => exact absurd (hb.mp rfl) h
  rw [e]; exact q
/-- the whole of a pairing that is made -/
structure PDone (H : Hp) (C p : Addr) (U left : List Node) (nb : Node → List Node) (mm : MM) (va : V) (L B Mt : Addr) : Prop where
  ob : PObj H C p U nb va L B Mt
  lf : ∃ o ys, H L = some (.frz o (.lst ys)) ∧ Paired (RNd H) left ys
  mt : MmAt H mm Mt
  und : U.Nodup
  ulen : U.length ≤ 110
  mlen : mm.length ≤ 110
  uok : ∀ x ∈ U, Enc.ok x.1
  lnd : left.Nodup
  lsub : ∀ x ∈ left, x ∈ U
  nsub : ∀ x ∈ U, ∀ y ∈ nb x, y ∈ U
  bip : ∀ x ∈ left, ∀ y ∈ nb x, y ∉ left
  mok : MOk nb (fun x => x ∈ left) (gv mm)
  proc : ∀ x ∈ left, Proc nb (gv mm) x
  msub : ∀ p ∈ mm, p.2 ∈ U
  mnd : (mm.map (·.1)).Nodup
theorem PDone.same {H H' : Hp} {C p : Addr} {U left : List Node} {nb : Node → List Node} {mm : MM} {va : V} {L B Mt : Addr} (h : PDone H C p U left nb mm va L B Mt) (s : Same H H') : PDone H' C p U left nb mm va L B Mt := by
  obtain ⟨⟨⟨dx, e⟩, b⟩, ⟨o, ys, h1, h2⟩, ⟨kvs, m1, m2⟩, a3, a4, a5, a6, a7, a8, a9, a10, a11, a12, a13, a14⟩ := h
  exact ⟨⟨⟨dx, s _ _ e⟩, b.tup s.tupS⟩, ⟨o, ys, s _ _ h1, Paired.mapP h2 fun b v q => stab_nd _ _ b v s.tupS q⟩, ⟨kvs, s _ _ m1, m2.tup s.tupS⟩, a3, a4, a5, a6, a7, a8, a9, a10, a11, a12, a13, a14⟩
def spMet (C : Addr) : Sp := fun vs H Q _ => ∃ (p L B Mt : Addr) (U left : List Node) (nb : Node → List Node) (mm : MM) (va : V), vs = [.ref p] ∧ PDone H C p U left nb mm va L B Mt ∧
  ∀ D fn H', Same H H' → H' D = some (.dT (snK fn)) → (∀ x ∈ fn, x ∈ left → ∀ y ∈ nb x, y ∈ fn) → Q (.ref D) H'
/-- while the search goes -/
structure Seek (U left : List Node) (nb : Node → List Node) (mm : MM) (wt fn : List Node) (w : Node → Prop) : Prop where
  fnd : fn.Nodup
  fsub : ∀ x ∈ fn, x ∈ U
  wnd : wt.Nodup
  wl : ∀ x ∈ wt, x ∈ left ∧ DeadN nb (gv mm) x ∧ x ∈ fn
  cl : ∀ x ∈ fn, x ∈ left → x ∈ wt ∨ w x ∨ ∀ y ∈ nb x, y ∈ fn
theorem snK_of : ∀ {kvs : KvT} {l : List Node}, kvs.map (·.1) = l.map nk → kvs.map (·.2) = l.map (fun _ => V.bl true) → kvs = snK l
  | [], [], _, _ => rfl
  | [], a :: l, h, _ => by cases h
  | q :: kvs, [], h, _ => by cases h
  | q :: kvs, a :: l, h1, h2 => by
    rw [List.map_cons, List.map_cons] at h1 h2
    obtain ⟨e1, e2⟩ := List.cons.inj h1
    obtain ⟨e3, e4⟩ := List.cons.inj h2
    rw [snK_of e2 e4]
    show q :: snK l = (nk a, V.bl true) :: snK l
    rw [← e1, ← e3]
theorem paired_last {α β : Type} {F : α → β → Prop} {l : List α} {a : α} {m : List β} (h : Paired F (l ++ [a]) m) : ∃ m0 b, m = m0 ++ [b] ∧ Paired F l m0 ∧ F a b := by
  induction l generalizing m with
  | nil =>
    cases h with
    | cons h t => cases t; exact ⟨[], _, rfl, .nil, h⟩
  | cons c l ih =>
    cases h with
    | cons h t =>
      obtain ⟨m0, b, rfl, h1, h2⟩ := ih t
      exact ⟨_ :: m0, b, rfl, .cons h h1, h2⟩
theorem last_of {α : Type} : ∀ {l : List α}, l ≠ [] → ∃ l0 a, l = l0 ++ [a]
  | [], h => absurd rfl h
  | [a], _ => ⟨[], a, rfl⟩
  | a :: b :: l, _ => by
    obtain ⟨l0, c, e⟩ := last_of (l := b :: l) (by simp)
    exact ⟨a :: l0, c, by rw [e]; rfl⟩
section
variable {P : Program} {w : World} {K : PySem.W.Frag} {mg : Str → Option Value} {base : Heap} {C : Addr}
theorem ok_met (T0 : Bt mg) (T : PCls K C) (F : StM K C "met" "Pairing.met" sMet) : Mf P w K mg base CX0 1 C "met" ["self"] (spMet C) := by
  refine F.ok0 scMet (fun vs H Q E h => ?_) (fun _ _ _ _ _ _ us hl => match us, hl with | [_], _ => rfl) fun f cdv A outer s H vs Q E hr h => ?_
  · obtain ⟨p, L, B, Mt, U, left, nb, mm, va, rfl, _⟩ := h
    rfl
  obtain ⟨p, L, B, Mt, U, left, nb, mm, va, rfl, hp, q⟩ := h
  refine ⟨_, pss_cons (ps_set (i := 1) scMet.nd rfl (Or.inr rfl) (pe_listVals T0 rfl (pe_fld (pv 0) rfl)))
    (pss_cons (ps_setLc (i := 2) (own := [("node", 6)]) (g := gName 6) rfl scMet.nd rfl rfl (sw_true rfl rfl rfl (by decide +kernel)) (piL K (pe_fld (pv 0) rfl)) (blkOk_by (by rfl))
        (fun _ _ _ _ _ => pg_name (i := 6) scMet.nd rfl (Or.inl rfl)) (fun _ _ _ _ _ => pts_one (pt_cmpR (op_notInE (α := Node) (hu65 hr)) (pv 6) (pv 1) rfl)) (fun _ _ _ _ _ => pv 6))
    (pss_cons (ps_setDcg (.dT []) (i := 3) (own := [("node", 6)]) (g := gName 6) newDT (hu_of hr) rfl scMet.nd rfl rfl (sw_trueD rfl rfl rfl (by decide +kernel)) (piL K (pv 2)) (blkOk_by (by rfl))
        (fun _ _ _ _ _ => pg_name (i := 6) scMet.nd rfl (Or.inl rfl)) (fun _ _ _ _ _ => pts_nil) (fun _ _ _ _ _ => pv 6) (fun _ _ _ _ _ => pe_bl))
    (pss_cons (ps_while PassesOwn.never (pt_cmpR (opNeD K hr.units) (pv 2) (pe_lst pa_nil) (nomark _))
      (pss_one (ps_for PassesOwn.never rfl (piL K (pe_dget (hu_of hr) (pe_fld (pv 0) rfl) (pe_bm0 PySem.F.plainAttrs_list PySem.F.slot_list_pop PySem.F.type_list_pop mt_pop (pv 2)) (fun _ _ => rfl))) (pg_name (i := 4) scMet.nd rfl (Or.inl rfl))
        (pss_one (ps_if (pt_cmp (pc_dnotin (hu_of hr) (pv 4) (pv 3)))
          (pss_cons (ps_dput (hu_of hr) (pv 3) (pv 4) pe_bl rfl)
          (pss_cons (ps_set (i := 5) scMet.nd rfl (Or.inl rfl) (pe_dget (hu_of hr) (pe_fld (pv 0) rfl) (pv 4) (fun _ _ => rfl)))
          (pss_one (ps_if (pt_cmp (pc_dnotin (hu_of hr) (pv 5) (pv 3)))
            (pss_cons (ps_dput (hu_of hr) (pv 3) (pv 5) pe_bl rfl)
            (pss_one (ps_expr (pe_bm PySem.F.plainAttrs_list PySem.F.slot_list_append PySem.F.type_list_append mt_append (pv 2) (pa_cons (pv 5) pa_nil))))) pss_nil)))) pss_nil)))))
    (pss_one (ps_ret (pv 3)))))), ?_⟩
  walk_at "nf"
  obtain ⟨dx, hob⟩ := id hp.ob.ob
  obtain ⟨ol, lys, hL, hlys⟩ := id hp.lf
  obtain ⟨kvM, hM, hMm⟩ := id hp.mt
  obtain ⟨ob, kvB, hB, hBx⟩ := id hp.ob.bes
  have hll : left.length ≤ 110 := Nat.le_trans (nodup_len hp.lnd hp.lsub) hp.ulen
  refine ⟨p, C, dx, _, _, rfl, hob, T.cl, T.mate_of, rfl, Mt, kvM, rfl, hM, fun Hd hHd => ⟨p, C, dx, _, _, rfl, by rw [upd_ne (ne_of_none hob hHd)]; exact hob, T.cl, T.left, rfl, ?_⟩⟩
  have s1 : Same H (upd H Hd (.lst (kvM.map (·.2)))) := .new hHd
  have hHd1 : upd H Hd (.lst (kvM.map (·.2))) Hd = some (.lst (kvM.map (·.2))) := upd_same
  generalize upd H Hd (.lst (kvM.map (·.2))) = H1 at s1 hHd1
  have hheld : ∀ {H2}, Same H1 H2 → SeqE H2 (mm.map (·.2)) (.ref Hd) := fun {H2} s => .inl ⟨Hd, _, rfl, .inl (s _ _ hHd1), nds_at (Paired.mapP hMm.2 fun b v q => stab_nd _ _ b v (s1.trans s).tupS q)⟩
  refine lc_listR (R := RNd) (fun R h => h) (l := left) ⟨.inl (.inr ⟨ol, s1 _ _ hL⟩), Paired.mapP hlys fun b v q => stab_nd _ _ b v s1.tupS q⟩ stab_nd RNd stab_nd (fun x => !decide (x ∈ mm.map (·.2))) id (small1000 (Nat.le_trans hll (by decide))) (fun x y H2 R hx s2 hy kp dr => ?_) fun W wys H2 hW s2 hW' hwp => ?_
  · refine ⟨rfl, ?_⟩
    walk_at "nf"
    refine r_ninE (!decide (x ∈ mm.map (·.2))) (by simp) hy.at_ (hheld s2) ⟨hp.uok x (hp.lsub x hx), trivial⟩ (fun b hb => ?_) ⟨_, rfl, ?_⟩
    · obtain ⟨q, hq, rfl⟩ := List.mem_map.mp hb
      exact ⟨hp.uok _ (hp.msub q hq), trivial⟩
    · cases e : !decide (x ∈ mm.map (·.2)) with
      | true => exact iteT' rfl (kp _ _ (.refl _) e hy)
      | false => exact iteF' rfl (dr _ (.refl _) e)
  rw [List.map_id] at hwp
  have hW0 : H W = none := s1.free hW
  have wnd : (left.filter fun x => !decide (x ∈ mm.map (·.2))).Nodup := hp.lnd.sublist List.filter_sublist
  have wll : (left.filter fun x => !decide (x ∈ mm.map (·.2))).length ≤ 110 := Nat.le_trans (List.length_filter_le _ _) hll
  have hwd : ∀ x ∈ left.filter fun x => !decide (x ∈ mm.map (·.2)), x ∈ left ∧ DeadN nb (gv mm) x := fun x hx => by
    obtain ⟨h1, h2⟩ := List.mem_filter.mp hx
    refine ⟨h1, (hp.proc x h1).resolve_left fun ⟨y, hy⟩ => ?_⟩
    have : x ∈ mm.map (·.2) := List.mem_map.mpr ⟨_, gv_some hy, rfl⟩
    rw [decide_eq_true this] at h2
    cases h2
  refine dcn_list (fun R h => ⟨_, rfl, h⟩) (l := left.filter fun x => !decide (x ∈ mm.map (·.2))) (.of hW') hwp (RAt (α := Bool)) stab_at (fun _ => true) (small1000 (Nat.le_trans wll (by decide))) wnd (fun x y H3 R hx s3 hy kp => ?_) fun F kvF H3 hF s3 hF' hk hv => ?_
  · refine ⟨rfl, ?_⟩
    walk_at "nf"
    exact kp _ _ _ (.refl _) hy rfl
  have hF0 : H F = none := (s1.trans s2).free hF
  have hFK : kvF = snK (left.filter fun x => !decide (x ∈ mm.map (·.2))) := snK_of hk (by rw [bools_of hv, List.map_map]; rfl)
  subst hFK
  have hWF : W ≠ F := ne_of_none hW' hF
  have tt : ∀ {Ha Hb : Hp} {wa : List V} {fa : KvT}, Ha W = some (.lst wa) → Ha F = some (.dT fa) → Keep [W, F] Ha Hb → TupS Ha Hb := fun {Ha Hb wa fa} h1 h2 k => k.tupS fun a ha o ho => by
    rw [List.mem_cons, List.mem_singleton] at ha
    rcases ha with rfl | rfl
    · rw [h1] at ho; cases ho; rfl
    · rw [h2] at ho; cases ho; rfl
  have s123 := (s1.trans s2).trans s3
  refine ⟨fun m σ' H' => ∃ wt fn u4 u5 wys, σ' = [some (.ref p), some (.ref Hd), some (.ref W), some (.ref F), u4, u5, none] ∧ H' W = some (.lst wys) ∧ Paired (RNd H') wt wys ∧ H' F = some (.dT (snK fn)) ∧ Seek U left nb mm wt fn (fun _ => False) ∧ Same H H' ∧ m = 2 * (U.length - fn.length) + wt.length,
    ⟨_, _, _, none, none, wys, rfl, s3 _ _ hW', Paired.mapP hwp fun b v q => stab_nd _ _ b v s3.tupS q, hF', ⟨wnd, fun x hx => hp.lsub x (hwd x hx).1, wnd, fun x hx => ⟨(hwd x hx).1, (hwd x hx).2, hx⟩, fun x hx _ => .inl hx⟩, s123, rfl⟩, ?_⟩
  rintro m σ4 H4 ⟨wt, fn, u4, u5, wy, rfl, k1, k2, k3, sk, s4, rfl⟩
  have fl : fn.length ≤ 110 := Nat.le_trans (nodup_len sk.fnd sk.fsub) hp.ulen
  have wl : wt.length ≤ 110 := Nat.le_trans (nodup_len sk.wnd fun x hx => (sk.wl x hx).2.2) fl
  walk_at "nf"
  refine ⟨by decide, fun e he => r_neNil (l := wt) (.of (show upd H4 e _ W = _ by rw [upd_ne (ne_of_none k1 he)]; exact k1)) (nds_at (Paired.mapP k2 fun b v q => stab_nd _ _ b v (Same.new he).tupS q)) upd_same (fun a ha => ⟨hp.uok a (sk.fsub a (sk.wl a ha).2.2), trivial⟩) ⟨_, rfl, ?_⟩⟩
  have s5 : Same H4 (upd H4 e (.lst [])) := .new he
  generalize upd H4 e (.lst []) = H5 at s5
  have k1 := s5 _ _ k1
  have k2 : Paired (RNd H5) wt wy := Paired.mapP k2 fun b v q => stab_nd _ _ b v s5.tupS q
  have k3 := s5 _ _ k3
  have s4 := s4.trans s5
  by_cases hwe : wt = []
  · subst hwe
    refine iteF' rfl (q F fn H5 s4 k3 fun x hx hl => ?_)
    rcases sk.cl x hx hl with h | h | h
    · cases h
    · exact h.elim
    · exact h
  obtain ⟨wt0, w0, rfl⟩ := last_of hwe
  obtain ⟨wy0, vw, rfl, kw0, kw⟩ := paired_last k2
  have hne : (!(wt0 ++ [w0]).isEmpty) = true := by cases wt0 <;> rfl
  obtain ⟨wL, wD, wF⟩ := sk.wl w0 (by simp)
  have wU := hp.lsub w0 wL
  have hW00 : wt0.Nodup ∧ w0 ∉ wt0 := by
    have := sk.wnd
    rw [List.nodup_append] at this
    exact ⟨this.1, fun h => this.2.2 w0 h w0 (by simp) rfl⟩
  obtain ⟨lb, o, ys, e1, e2, e3⟩ := hBx w0 wU
  have kp6 : Keep [W, F] H5 (upd H5 W (.lst (wy0 ++ [vw]).dropLast)) := .upd (by simp)
  have t6 := tt k1 k3 kp6
  have s6 : Same H (upd H5 W (.lst (wy0 ++ [vw]).dropLast)) := s4.put hW0
  have j1 : upd H5 W (.lst (wy0 ++ [vw]).dropLast) W = some (.lst wy0) := by rw [upd_same, List.dropLast_concat]
  have j3 : upd H5 W (.lst (wy0 ++ [vw]).dropLast) F = some (.dT (snK fn)) := by rw [upd_ne hWF.symm]; exact k3
  have hg := dgetN (.inr ⟨ob, s6 _ _ hB⟩) (stab_nd _ _ _ _ t6 kw)
  rw [e1] at hg
  refine iteT' hne ⟨fun σ' H' => ∃ m', m' < 2 * (U.length - fn.length) + (wt0 ++ [w0]).length ∧ ∃ wt fn u4 u5 wys, σ' = [some (.ref p), some (.ref Hd), some (.ref W), some (.ref F), u4, u5, none] ∧ H' W = some (.lst wys) ∧ Paired (RNd H') wt wys ∧ H' F = some (.dT (snK fn)) ∧ Seek U left nb mm wt fn (fun _ => False) ∧ Same H H' ∧ m' = 2 * (U.length - fn.length) + wt.length,
    fun _ _ h => h, p, C, dx, _, _, rfl, s4 _ _ hob, T.cl, T.beside, rfl, .inl ⟨rfl, _, .of k1⟩, W, _, vw, rfl, rfl, k1, by simp, B, _, rfl, hg, ?_⟩
  generalize upd H5 W (.lst (wy0 ++ [vw]).dropLast) = H6 at kp6 t6 s6 j1 j3 hg
  refine for_listR (R := RNd) (l := nb w0) (fun R h => h) ⟨ys, .inl (.inr ⟨o, s6 _ _ e2⟩)⟩ (fun i σ' H' => ∃ wt fn' u4 u5 wys, σ' = [some (.ref p), some (.ref Hd), some (.ref W), some (.ref F), u4, u5, none] ∧ H' W = some (.lst wys) ∧ Paired (RNd H') wt wys ∧ H' F = some (.dT (snK fn')) ∧
      Seek U left nb mm wt fn' (fun z => z = w0) ∧ Same H H' ∧ w0 ∉ wt ∧ w0 ∈ fn' ∧ (∀ y ∈ (nb w0).take i, y ∈ fn') ∧ 2 * (U.length - fn'.length) + wt.length ≤ 2 * (U.length - fn.length) + wt0.length)
    (fun i σ' H' ⟨_, _, _, _, _, _, _, _, _, _, s, _⟩ => ⟨.inl (.inr ⟨o, s _ _ e2⟩), Paired.mapP e3 fun b v q => stab_nd _ _ b v s.tupS q⟩)
    ⟨wt0, fn, u4, u5, wy0, rfl, j1, Paired.mapP kw0 fun b v q => stab_nd _ _ b v t6 q, j3, ⟨sk.fnd, sk.fsub, hW00.1, fun x hx => sk.wl x (List.mem_append_left _ hx), fun x hx hl => ?_⟩, s6, hW00.2, wF, (fun y hy => by simp at hy), Nat.le_refl _⟩ (fun i y vy σ' H7 hy hpv hvy => ?_) fun σ' H7 hpv => ?_
  · rcases sk.cl x hx hl with h | h | h
    · rcases List.mem_append.mp h with h | h
      · exact .inl h
      · exact .inr (.inl (List.mem_singleton.mp h))
    · exact h.elim
    · exact .inr (.inr h)
  · obtain ⟨wt, fn', u4, u5, wys, rfl, l1, l2, l3, sk', l4, l5, l5', l6, l7⟩ := hpv
    have hyn : y ∈ nb w0 := List.mem_of_getElem? hy
    have tk : (nb w0).take (i + 1) = (nb w0).take i ++ [y] := by rw [List.take_add_one, hy]; rfl
    have fl' : fn'.length ≤ U.length := nodup_len sk'.fnd sk'.fsub
    have yU := hp.nsub w0 wU y hyn
    walk_at "nf"
    refine ⟨F, _, rfl, dgetN (.inl l3) hvy, _, rfl, ?_⟩
    rw [snK_get]
    by_cases hin : y ∈ fn'
    · rw [decide_eq_true hin]
      refine iteF' rfl ⟨wt, fn', _, _, wys, rfl, l1, l2, l3, sk', l4, l5, l5', fun z hz => ?_, l7⟩
      rw [tk] at hz
      rcases List.mem_append.mp hz with hz | hz
      · exact l6 z hz
      · rw [List.mem_singleton.mp hz]; exact hin
    · rw [decide_eq_false hin]
      obtain ⟨m, em, dm⟩ := wD.step hyn
      obtain ⟨mL, _⟩ := hp.mok y m em
      have mU := hp.lsub m mL
      obtain ⟨vm, evm, hvm⟩ := (hMm.tup l4.tupS).get.2 m em
      have kp8 : Keep [W, F] H7 (upd H7 F (.dT (snK (fn' ++ [y])))) := .upd (by simp)
      have t8 := tt l1 l3 kp8
      have s8 : Same H (upd H7 F (.dT (snK (fn' ++ [y])))) := l4.put hF0
      have p1 : upd H7 F (.dT (snK (fn' ++ [y]))) W = some (.lst wys) := by rw [upd_ne hWF]; exact l1
      have p3 : upd H7 F (.dT (snK (fn' ++ [y]))) F = some (.dT (snK (fn' ++ [y]))) := upd_same
      refine iteT' rfl ⟨F, _, rfl, dputN l3 hvy (by rw [snK_len]; exact small1000 (Nat.le_trans fl' (Nat.le_trans hp.ulen (by decide)))), ?_⟩
      rw [snK_new hin]
      have l2 : Paired (RNd (upd H7 F (.dT (snK (fn' ++ [y]))))) wt wys := Paired.mapP l2 fun b v q => stab_nd _ _ b v t8 q
      have hvm := stab_nd _ _ _ _ t8 hvm
      have hvy := stab_nd _ _ _ _ t8 hvy
      generalize upd H7 F (.dT (snK (fn' ++ [y]))) = H8 at kp8 t8 s8 p1 p3 l2 hvm hvy
      have yl : y ∉ left := hp.bip w0 wL y hyn
      have nd2 : (fn' ++ [y]).Nodup := by
        rw [List.nodup_append]
        exact ⟨sk'.fnd, by simp, fun a ha b hb e => by rw [List.mem_singleton.mp hb] at e; rw [e] at ha; exact hin ha⟩
      have sub2 : ∀ z ∈ fn' ++ [y], z ∈ U := fun z hz => by
        rcases List.mem_append.mp hz with hz | hz
        · exact sk'.fsub z hz
        · rw [List.mem_singleton.mp hz]; exact yU
      have fl2 : fn'.length + 1 ≤ U.length := by simpa using nodup_len nd2 sub2
      have hgm := dgetN (.inl (s8 _ _ hM)) hvy
      rw [evm] at hgm
      have tk2 : ∀ z ∈ (nb w0).take (i + 1), z ∈ fn' ++ [y] := fun z hz => by
        rw [tk] at hz
        rcases List.mem_append.mp hz with hz | hz
        · exact List.mem_append_left _ (l6 z hz)
        · exact List.mem_append_right _ hz
      refine ⟨p, C, dx, _, _, rfl, s8 _ _ hob, T.cl, T.mate_of, rfl, Mt, _, rfl, hgm, F, _, rfl, dgetN (.inl p3) hvm, _, rfl, ?_⟩
      rw [snK_get]
      by_cases hmi : m ∈ fn' ++ [y]
      · rw [decide_eq_true hmi]
        refine iteF' rfl ⟨wt, fn' ++ [y], _, _, wys, rfl, p1, l2, p3, ⟨nd2, sub2, sk'.wnd, fun x hx => ⟨(sk'.wl x hx).1, (sk'.wl x hx).2.1, List.mem_append_left _ (sk'.wl x hx).2.2⟩, fun x hx hl => ?_⟩, s8, l5, List.mem_append_left _ l5', tk2, ?_⟩
        · rcases List.mem_append.mp hx with hx | hx
          · rcases sk'.cl x hx hl with h | h | h
            · exact .inl h
            · exact .inr (.inl h)
            · exact .inr (.inr fun z hz => List.mem_append_left _ (h z hz))
          · rw [List.mem_singleton.mp hx] at hl; exact absurd hl yl
        · rw [List.length_append, List.length_singleton]; omega
      · rw [decide_eq_false hmi]
        have wtl : wt.length ≤ 110 := Nat.le_trans (nodup_len sk'.wnd fun x hx => (sk'.wl x hx).2.2) (Nat.le_trans fl' hp.ulen)
        have nd3 : ((fn' ++ [y]) ++ [m]).Nodup := by
          rw [List.nodup_append]
          exact ⟨nd2, by simp, fun a ha b hb e => by rw [List.mem_singleton.mp hb] at e; rw [e] at ha; exact hmi ha⟩
        have sub3 : ∀ z ∈ (fn' ++ [y]) ++ [m], z ∈ U := fun z hz => by
          rcases List.mem_append.mp hz with hz | hz
          · exact sub2 z hz
          · rw [List.mem_singleton.mp hz]; exact mU
        have fl3 : fn'.length + 1 + 1 ≤ U.length := by simpa using nodup_len nd3 sub3
        have hmw : m ∉ wt := fun h => hmi (List.mem_append_left _ (sk'.wl m h).2.2)
        have hmw0 : m ≠ w0 := fun h => hmi (List.mem_append_left _ (by
          rw [h]
          exact l5'))
        refine iteT' rfl ⟨F, _, rfl, dputN p3 hvm (by rw [snK_len, List.length_append, List.length_singleton]; have := hp.ulen; exact small1000 (by omega)), ?_⟩
        rw [snK_new hmi]
        have kp9 : Keep [W, F] H8 (upd H8 F (.dT (snK ((fn' ++ [y]) ++ [m])))) := .upd (by simp)
        have t9 := tt p1 p3 kp9
        have w9 : upd H8 F (.dT (snK ((fn' ++ [y]) ++ [m]))) W = some (.lst wys) := by rw [upd_ne hWF]; exact p1
        have tA : TupS (upd H8 F (.dT (snK ((fn' ++ [y]) ++ [m])))) (upd (upd H8 F (.dT (snK ((fn' ++ [y]) ++ [m])))) W (.lst (wys ++ [vm]))) := .lst w9
        refine r_app w9 (by rw [← l2.length]; omega) ⟨wt ++ [m], (fn' ++ [y]) ++ [m], _, _, wys ++ [vm], rfl, upd_same, ?_, by rw [upd_ne hWF.symm, upd_same], ⟨nd3, sub3, ?_, fun x hx => ?_, fun x hx hl => ?_⟩, (s8.put hF0).put hW0, ?_, List.mem_append_left _ (List.mem_append_left _ l5'), fun z hz => List.mem_append_left _ (tk2 z hz), ?_⟩
        · exact Paired.snoc (Paired.mapP l2 fun b v q => stab_nd _ _ b v (t9.trans tA) q) (stab_nd _ _ _ _ (t9.trans tA) hvm)
        · rw [List.nodup_append]
          exact ⟨sk'.wnd, by simp, fun a ha b hb e => by rw [List.mem_singleton.mp hb] at e; rw [e] at ha; exact hmw ha⟩
        · rcases List.mem_append.mp hx with hx | hx
          · exact ⟨(sk'.wl x hx).1, (sk'.wl x hx).2.1, List.mem_append_left _ (List.mem_append_left _ (sk'.wl x hx).2.2)⟩
          · rw [List.mem_singleton.mp hx]; exact ⟨mL, dm, by simp⟩
        · rcases List.mem_append.mp hx with hx | hx
          · rcases List.mem_append.mp hx with hx | hx
            · rcases sk'.cl x hx hl with h | h | h
              · exact .inl (List.mem_append_left _ h)
              · exact .inr (.inl h)
              · exact .inr (.inr fun z hz => List.mem_append_left _ (List.mem_append_left _ (h z hz)))
            · rw [List.mem_singleton.mp hx] at hl; exact absurd hl yl
          · exact .inl (List.mem_append_right _ hx)
        · intro h
          rcases List.mem_append.mp h with h | h
          · exact l5 h
          · exact hmw0 (List.mem_singleton.mp h).symm
        · rw [List.length_append, List.length_append, List.length_append, List.length_singleton, List.length_singleton]; omega
  · obtain ⟨wt, fn', u4, u5, wys, rfl, l1, l2, l3, sk', l4, l5, l5', l6, l7⟩ := hpv
    rw [List.take_length] at l6
    refine ⟨_, ?_, wt, fn', u4, u5, wys, rfl, l1, l2, l3, ⟨sk'.fnd, sk'.fsub, sk'.wnd, sk'.wl, fun x hx hl => ?_⟩, l4, rfl⟩
    · rw [List.length_append, List.length_singleton]
      omega
    · rcases sk'.cl x hx hl with h | h | h
      · exact .inl h
      · exact .inr (.inr (by rw [h]; exact l6))
      · exact .inr (.inr h)
end
end G3
end

/-! ## G3Cover -/
section
set_option Elab.async false
set_option linter.all false
set_option maxRecDepth 100000
set_option maxHeartbeats 4000000
local macro_rules | `(tactic| walk_at "nf") => `(tactic| simp only [L2.tRet, L2.tRetN, L2.tAndV, L2.tOrV, L2.tNotV, L2.tCB, L2.tCons, L2.tNil, L2.tVar, L2.tC, L2.tDIn, L2.tDNotIn, L2.tDGet, L2.tOp, L2.tUn, L2.tTest, L2.tB, L2.tIf, L2.tIfS, L2.tAnd, L2.tOr, L2.tNot, L2.tSeq, L2.tAsg, L2.gName, L2.tDrop, L2.tNext, L2.tCall, L2.tTup, L2.tLst, L2.tBM, L2.tBM0, L2.tSl, L2.tPart, L2.tNoPart, L2.sDPut, L2.tFld, L2.sFld, L2.tMeth, L2.tYes, L2.gTup, L2.gCons, L2.gNil, L2.tIsN, L2.tNotN, L2.tPar, L2.tPar3, L2.tDNewK, L2.tDisp, L2.tPairs, L2.tDGet1, StX.tStar, L2.tMake, L2.tUn, G3.lcL_fld, G3.lcT_fld, G3.forL_fld, G3.tListVals, G3.lc2T_op, G3.lc2L_call, L2.tGThen, L2.tG0, L2.tPlain, L2.GEnds.at, L2.tGYield, L2.tCallG, L2.tListG, G3.tTupIx, G3.dcT_op, G3.tFrz, G3.dcI_frz, G3.lcI_frz, G3.lcY_frz, G3.lcI_call, G3.lcT_lit, G3.forT_lit, G3.lcL_call, G3.lcL_op, G3.lcL_dget, G3.lcT_call, G3.lcT_op, G3.lcT_dget, G3.forL_call, G3.forL_op, G3.forL_dget, G3.forT_call, G3.forT_op, G3.forT_dget, G3.ex_l1, G3.ex_l2, G3.ex_l3,
  G3.start_eq, G3.cxOf_K, G3.wipe_nil, G3.wipe_cons, List.map_cons, List.map_nil, List.nil_append, List.cons_append, List.append_nil, List.getElem?_cons_zero, List.getElem?_cons_succ, List.set_cons_zero, List.set_cons_succ, List.set_nil, List.length_cons, List.length_nil, List.replicate, Option.some.injEq, G3.ex_eq, Nat.reduceAdd, Nat.reduceSub, Nat.zero_add, List.replicate_succ, List.replicate_zero, true_and, if_true, if_false, Bool.false_eq_true, Nat.add_zero, Int.add_zero])
namespace G3
open PySem PySem.Spec PyProof.Rows L2

theorem eFld (K : PySem.W.Frag) {X : Cx} {e : Expr} {ta : TE} {f : Str} {pos : Pos} (he : PE X e ta) (eK : X.K = K := by rfl) (hb : attributeBase e f X.env (eval e X.env) = eval e X.env := by rfl) : PE X (.Attribute e f pos) (tFld K ta f) := by subst eK; exact pe_fld he hb
def spCovering (C : Addr) : Sp := fun vs H Q _ => ∃ (p L B Mt pa : Addr) (U left : List Node) (nb : Node → List Node) (mm : MM) (uys : List V), vs = [.ref p] ∧ PDone H C p U left nb mm (.ref pa) L B Mt ∧ H pa = some (.tup uys) ∧ Paired (RNd H) U uys ∧
  ∀ D l ys H', Same H H' → H' D = some (.lst ys) → Paired (RNd H') l ys → (∀ x ∈ l, x ∈ U) → (∀ x ∈ left, ∀ y ∈ nb x, x ∈ l ∨ y ∈ l) → l.length ≤ 110 → Q (.ref D) H'
section
variable {P : Program} {w : World} {K : PySem.W.Frag} {mg : Str → Option Value} {base : Heap} {C : Addr}
theorem ok_covering (T : PCls K C) (G : Mf P w K mg base CX0 1 C "met" ["self"] (spMet C)) (F : StM K C "covering" "Pairing.covering" sCovering) : Mf P w K mg base CX0 2 C "covering" ["self"] (spCovering C) := by
  refine F.ok0 scCov (fun vs H Q E h => ?_) (fun _ _ _ _ _ _ us hl => match us, hl with | [_], _ => rfl) fun f cdv A outer s H vs Q E hr h => ?_
  · obtain ⟨p, L, B, Mt, pa, U, left, nb, mm, uys, rfl, _⟩ := h
    rfl
  obtain ⟨p, L, B, Mt, pa, U, left, nb, mm, uys, rfl, hp, hpa, huy, q⟩ := h
  refine ⟨_, pss_cons (ps_set (i := 1) scCov.nd rfl (Or.inr rfl) (pe_mf0 G T.cl hr pass0 (pv 0) (by decide)))
    (pss_one (ps_ret (pe_lc (own := [("node", 2)]) (g := gName 2) rfl scCov.nd (piT K (pe_fld (pv 0) rfl)) (blkOk_by (by rfl)) (fun _ _ _ _ _ => pg_name (i := 2) scCov.nd rfl (Or.inl rfl))
      (fun _ _ _ _ _ => pts_one (pt_cmpR op_ne (pe_cmpR (op_inE (α := Node) (hu65 hr)) (pv 2) (eFld K (pv 0)) rfl) (pe_cmp (pc_din (hu_of hr) (pv 2) (pv 1))) (nomark _))) (fun _ _ _ _ _ => pv 2)))), ?_⟩
  walk_at "nf"
  obtain ⟨dx, hob⟩ := id hp.ob.ob
  refine ⟨p, dx, _, rfl, hob, rfl, p, L, B, Mt, U, left, nb, mm, .ref pa, rfl, hp, fun D fn H1 s1 hD hcl => ?_⟩
  refine ⟨p, C, dx, _, _, rfl, s1 _ _ hob, T.cl, T.some_, rfl, ?_⟩
  have hp1 := hp.same s1
  refine lc_tupR (fun R h => h) (.inl (.inl (s1 _ _ hpa))) (Paired.mapP huy fun b v q => stab_nd _ _ b v s1.tupS q) stab_nd RNd stab_nd (fun x => !decide (decide (x ∈ left) = decide (x ∈ fn))) id (small1000 (Nat.le_trans hp.ulen (by decide))) (fun x y H2 R hx s2 hy kp dr => ?_) fun D2 ys H2 hD2 s2 hD2' hps => ?_
  · refine ⟨rfl, ?_⟩
    walk_at "nf"
    have hp2 := hp1.same s2
    obtain ⟨ol, lys, hL, hlys⟩ := hp2.lf
    refine ⟨p, C, dx, _, _, rfl, s2 _ _ (s1 _ _ hob), T.cl, T.left, rfl, r_iinE (decide (x ∈ left)) (by simp) hy.at_ (.inl ⟨L, lys, rfl, .inr ⟨ol, hL⟩, nds_at hlys⟩) ⟨hp.uok x hx, trivial⟩ (fun b hb => ⟨hp.uok b (hp.lsub b hb), trivial⟩) ⟨D, _, rfl, dgetN (.inl (s2 _ _ hD)) hy, rfl, _, rfl, ?_⟩⟩
    · rw [snK_get]
      have e : (!decide (V.bl (decide (x ∈ left)) = V.bl (decide (x ∈ fn)))) = !decide (decide (x ∈ left) = decide (x ∈ fn)) := by
        congr 1
        exact decide_eq_decide.mpr ⟨fun h => V.bl.inj h, fun h => by rw [h]⟩
      rw [e]
      cases q0 : !decide (decide (x ∈ left) = decide (x ∈ fn)) with
      | true => exact iteT' rfl (kp _ _ (.refl _) q0 hy)
      | false => exact iteF' rfl (dr _ (.refl _) q0)
  · rw [List.map_id] at hps
    refine q D2 _ ys H2 (s1.trans s2) hD2' hps (fun x hx => (List.mem_filter.mp hx).1) (fun x hx y hy => ?_) (Nat.le_trans (List.length_filter_le _ _) hp.ulen)
    rw [List.mem_filter, List.mem_filter]
    have xU := hp.lsub x hx
    have yU := hp.nsub x xU y hy
    have yl := hp.bip x hx y hy
    by_cases h : x ∈ fn
    · exact .inr ⟨yU, by simp [yl, hcl x h hx y hy]⟩
    · exact .inl ⟨xU, by simp [hx, h]⟩
end
end G3
end

/-! ## G3PInit -/
section
set_option Elab.async false
set_option linter.all false
set_option maxRecDepth 100000
set_option maxHeartbeats 4000000
local macro_rules | `(tactic| walk_at "nf") => `(tactic| simp only [L2.tRet, L2.tRetN, L2.tAndV, L2.tOrV, L2.tNotV, L2.tCB, L2.tCons, L2.tNil, L2.tVar, L2.tC, L2.tDIn, L2.tDNotIn, L2.tDGet, L2.tOp, L2.tUn, L2.tTest, L2.tB, L2.tIf, L2.tIfS, L2.tAnd, L2.tOr, L2.tNot, L2.tSeq, L2.tAsg, L2.gName, L2.tDrop, L2.tNext, L2.tCall, L2.tTup, L2.tLst, L2.tBM, L2.tBM0, L2.tSl, L2.tPart, L2.tNoPart, L2.sDPut, L2.tFld, L2.sFld, L2.tMeth, L2.tYes, L2.gTup, L2.gCons, L2.gNil, L2.tIsN, L2.tNotN, L2.tPar, L2.tPar3, L2.tDNewK, L2.tDisp, L2.tPairs, L2.tDGet1, StX.tStar, L2.tMake, L2.tDNewT, G3.lcL_fld, G3.lcT_fld, G3.forL_fld, G3.tListVals, G3.lc2T_op, G3.lc2L_call, L2.tGThen, L2.tG0, L2.tPlain, L2.GEnds.at, L2.tGYield, L2.tCallG, L2.tListG, G3.tTupIx, G3.dcT_op, G3.tFrz, G3.dcI_frz, G3.lcI_frz, G3.lcY_frz, G3.lcI_call, G3.lcT_lit, G3.forT_lit, G3.lcL_call, G3.lcL_op, G3.lcL_dget, G3.lcT_call, G3.lcT_op, G3.lcT_dget, G3.forL_call, G3.forL_op, G3.forL_dget, G3.forT_call, G3.forT_op, G3.forT_dget, G3.ex_l1, G3.ex_l2, G3.ex_l3,
  G3.start_eq, G3.cxOf_K, G3.wipe_nil, G3.wipe_cons, List.map_cons, List.map_nil, List.nil_append, List.cons_append, List.append_nil, List.getElem?_cons_zero, List.getElem?_cons_succ, List.set_cons_zero, List.set_cons_succ, List.set_nil, List.length_cons, List.length_nil, List.replicate, Option.some.injEq, G3.ex_eq, Nat.reduceAdd, Nat.reduceSub, Nat.zero_add, List.replicate_succ, List.replicate_zero, true_and, if_true, if_false, Bool.false_eq_true, Nat.add_zero, Int.add_zero])
namespace G3
open PySem PySem.Spec PyProof.Rows L2

theorem scPInit : FnScope ["self", "network", "some", "first", "node", "other"] ["self", "network", "some"] (defScope sPInit) := ⟨rfl, rfl, rfl, by decide +kernel, rfl, by decide +kernel, by decide +kernel⟩
/-- the result of __init__ -/
def spPInit (C : Addr) : Sp := fun vs H Q _ => ∃ (p dx pa : Addr) (n : Net) (vn : V) (U : List Node) (uys : List V), vs = [.ref p, vn, .ref pa] ∧ H p = some (.ins C dx []) ∧ NetAt H n vn ∧ NetOk n ∧ H pa = some (.tup uys) ∧ Paired (RNd H) U uys ∧ U.Nodup ∧ U.length ≤ 110 ∧ (∀ x ∈ U, x.1 ∈ n.1) ∧
  ∀ (L B Mt : Addr) (left : List Node) (nb : Node → List Node) (mm : MM) H', Keep [p] H H' → PDone H' C p U left nb mm (.ref pa) L B Mt → (∀ x ∈ U, ∀ y, y ∈ nb x ↔ AdjN n x y ∧ y ∈ U) → (∀ x ∈ U, ∀ y ∈ U, AdjN n x y → (x ∈ left ↔ y ∉ left)) → Q .non H'
theorem bes_get {Rb : Rel Node} {H : Hp} {x : Node} : ∀ {U : List Node} {kvs : KvT}, kvs.map (·.1) = U.map nk → Paired (Rb H) U (kvs.map (·.2)) → x ∈ U → ∃ v, valV kvs (nk x) = some v ∧ Rb H x v
  | [], _, _, _, h => by cases h
  | a :: U, [], e, _, _ => by cases e
  | a :: U, q :: kvs, e, h2, hx => by
    rw [List.map_cons, List.map_cons] at e
    obtain ⟨e1, e2⟩ := List.cons.inj e
    rw [List.map_cons] at h2
    cases h2 with
    | cons h3 h4 =>
      by_cases he : a = x
      · subst he
        exact ⟨_, valV_pos e1, h3⟩
      · rw [valV_neg (fun z => he (nk_inj (e1.symm.trans z)))]
        exact bes_get e2 h4 ((List.mem_cons.mp hx).resolve_left fun z => he z.symm)
def RBes (n : Net) (U : List Node) : Rel Node := fun H x v => ∃ (l : Addr) (o : Obj) (ys : List V) (bl : List Node), v = .ref l ∧ H l = some (.frz o (.lst ys)) ∧ Paired (RNd H) bl ys ∧ ∀ y, y ∈ bl ↔ AdjN n x y ∧ y ∈ U
theorem stab_bes {n : Net} {U : List Node} : Stab (RBes n U) := fun H H' x v k ⟨l, o, ys, bl, e, h1, h2, h3⟩ => ⟨l, o, ys, bl, e, k _ _ h1 rfl, Paired.mapP h2 fun b v q => stab_nd _ _ b v k q, h3⟩
def pLeft (fst : List Str) (x : Node) : Bool := decide (decide (x.1 ∈ fst) = decide (x.2 % 2 = 0))
theorem pLeft_adj {n : Net} {fst : List Str} (sd : SideOk n fst) {x y : Node} (h : AdjN n x y) : pLeft fst x = true ↔ pLeft fst y = false := by
  unfold pLeft
  rcases h with ⟨h, e⟩ | ⟨e, h⟩
  · rw [e]
    have hs : decide (x.1 ∈ fst) = !decide (y.1 ∈ fst) := by
      rcases h with h | h
      · have := sd.two _ h
        by_cases h1 : x.1 ∈ fst <;> by_cases h2 : y.1 ∈ fst <;> simp_all
      · have := sd.two _ h
        by_cases h1 : x.1 ∈ fst <;> by_cases h2 : y.1 ∈ fst <;> simp_all
    rw [hs]
    cases decide (y.1 ∈ fst) <;> cases decide (y.2 % 2 = 0) <;> simp
  · rw [e]
    have hs : decide (x.2 % 2 = 0) = !decide (y.2 % 2 = 0) := by
      by_cases h1 : x.2 % 2 = 0 <;> by_cases h2 : y.2 % 2 = 0
      · omega
      · simp [h1, h2]
      · simp [h1, h2]
      · omega
    rw [hs]
    cases decide (y.1 ∈ fst) <;> cases decide (y.2 % 2 = 0) <;> simp
section
variable {P : Program} {w : World} {K : PySem.W.Frag} {mg : Str → Option Value} {base : Heap} {C : Addr}
theorem ok_pinit (T0 : Bt mg) (T : PCls K C) (G1 : Df P w K mg base CX0 5 "sides" ["network"] spSides) (G2 : Df P w K mg base CX0 4 "adjacent_to" ["network", "node"] spAdjacent) (G3 : Mf P w K mg base CX0 112 C "widen" ["self", "node", "seen"] (spWiden C 111)) (F : StM K C "__init__" "Pairing.__init__" sPInit) : Mf P w K mg base CX0 113 C "__init__" ["self", "network", "some"] (spPInit C) := by
  refine F.ok0 scPInit (fun vs H Q E h => ?_) (fun _ _ _ _ _ _ us hl => match us, hl with | [_, _, _], _ => rfl) fun f cdv A outer s H vs Q E hr h => ?_
  · obtain ⟨p, dx, pa, n, vn, U, uys, rfl, _⟩ := h
    rfl
  obtain ⟨p, dx, pa, n, vn, U, uys, rfl, hp, hn, no, hpa, huy, und, ulen, usub, q⟩ := h
  refine ⟨_, pss_cons (ps_set (i := 3) scPInit.nd rfl (Or.inr rfl) (eT K (pe_df G1 hr pass0 (pa_cons (pv 1) pa_nil)) pe_int))
    (pss_cons (ps_fld (pv 0) (pv 2) rfl)
    (pss_cons (ps_fld (pv 0) (pe_frz (pe_dcg (.dT []) (own := [("node", 4)]) (g := gName 4) newDT (hu_of hr) rfl scPInit.nd (piT K (pv 2)) (blkOk_by (by rfl)) (fun _ _ _ _ _ => pg_name (i := 4) scPInit.nd rfl (Or.inl rfl)) (fun _ _ _ _ _ => pts_nil) (fun _ _ _ _ _ => pv 4)
        (fun _ _ _ _ _ => pe_frz (pe_lc (own := [("other", 5)]) (g := gName 5) rfl scPInit.nd (piL K (pe_df G2 hr pass0 (pa_cons (pv 1) (pa_cons (pv 4) pa_nil)))) (blkOk_by (by rfl)) (fun _ _ _ _ _ => pg_name (i := 5) scPInit.nd rfl (Or.inl rfl))
          (fun _ _ _ _ _ => pts_one (pt_cmpR (op_inE (α := Node) (hu65 hr)) (pv 5) (pv 2) rfl)) (fun _ _ _ _ _ => pv 5))))) rfl)
    (pss_cons (ps_fld (pv 0) (pe_frz (pe_lc (own := [("node", 4)]) (g := gName 4) rfl scPInit.nd (piT K (pv 2)) (blkOk_by (by rfl)) (fun _ _ _ _ _ => pg_name (i := 4) scPInit.nd rfl (Or.inl rfl))
        (fun _ _ _ _ _ => pts_one (pt_cmpR op_eq (pe_cmpR (opInS K) (eT K (pv 4) pe_int) (pv 3) rfl) (pe_cmpR op_eq (pe_op op_mod (eT K (pv 4) pe_int) pe_int) pe_int (nomark _)) (nomark _))) (fun _ _ _ _ _ => pv 4))) rfl)
    (pss_cons (ps_fld (pv 0) pe_dnewT rfl)
    (pss_one (ps_for PassesOwn.never rfl (piL K (pe_fld (pv 0) rfl)) (pg_name (i := 4) scPInit.nd rfl (Or.inl rfl))
      (pss_one (ps_expr (pe_mf G3 T.cl hr pass0 (pv 0) (pa_cons (pv 4) (pa_cons pe_dnewT pa_nil)) (Nat.le_refl _)))))))))), ?_⟩
  walk_at "nf"
  refine ⟨n, vn, rfl, hn, no, fun q1 fst snd H1 s1 h1 sd => r_p0 h1 fun vf hvf => ⟨p, C, dx, _, rfl, s1 _ _ hp, T.cl, T.some_, by decide, ?_⟩⟩
  have hpf : putF (Str.ofString "some") (V.ref pa) [] = [(("some" : Str), V.ref pa)] := rfl
  rw [hpf]
  have k2 : Keep [p] H1 (upd H1 p (.ins C dx [(("some" : Str), V.ref pa)])) := .upd (by simp)
  have t2 : TupS H1 (upd H1 p (.ins C dx [(("some" : Str), V.ref pa)])) := .ins (s1 _ _ hp)
  have hob2 : upd H1 p (.ins C dx [(("some" : Str), V.ref pa)]) p = some (.ins C dx [(("some" : Str), V.ref pa)]) := upd_same
  generalize upd H1 p (.ins C dx [(("some" : Str), V.ref pa)]) = H2 at k2 t2 hob2
  have t12 := s1.tupS.trans t2
  have hU2 : Paired (RNd H2) U uys := Paired.mapP huy fun b v q => stab_nd _ _ b v t12 q
  have hpa2 := t12 _ _ hpa rfl
  have hn2 := hn.tup t12
  have hvf2 := hvf.tup t2
  refine dcn_tup (fun R h => ⟨_, rfl, h⟩) (.inl (.inl hpa2)) hU2 (RBes n U) stab_bes id (small1000 (Nat.le_trans ulen (by decide))) und (fun x vx H3 R hx s3 hvx kp => ?_) fun D kvs H3 hD s3 hD3 hkeys hvals => ?_
  · refine ⟨rfl, ?_⟩
    walk_at "nf"
    refine ⟨n, x, vn, vx, rfl, hn2.tup s3.tupS, no, hvx.at_, usub x hx, fun D l ys H4 s4 hD hD4 hps hmem hlen => ?_⟩
    have hU4 : Paired (RNd H4) U uys := Paired.mapP hU2 fun b v q => stab_nd _ _ b v (s3.trans s4).tupS q
    have hUA : ∀ {H5}, Same H4 H5 → SeqE H5 U (.ref pa) := fun {H5} s5 => .inr ⟨pa, uys, rfl, .inl (s5.tupS _ _ (s4.tupS _ _ (s3.tupS _ _ hpa2 rfl) rfl) rfl), nds_at (Paired.mapP hU4 fun b v q => stab_nd _ _ b v s5.tupS q)⟩
    have alln : ∀ y, AdjN n x y → y.1 ∈ n.1 := fun y h => by
      rcases h with ⟨h | h, _⟩ | ⟨e, _⟩
      · exact (no.tk _ h).2.1
      · exact (no.tk _ h).1
      · rw [← e]; exact usub x hx
    refine lc_listR (R := RNd) (fun R h => h) (l := l) ⟨.of hD4, hps⟩ stab_nd RNd stab_nd (fun y => decide (y ∈ U)) id (small1000 (Nat.le_trans hlen (by decide))) (fun y vy H5 R' hy s5 hvy kp' dr' => ?_) fun D2 ys2 H5 hD2 s5 hD5 hps2 => ?_
    · refine ⟨rfl, ?_⟩
      walk_at "nf"
      refine r_iinE (decide (y ∈ U)) (by simp) hvy.at_ (hUA s5) ⟨no.ok _ (alln y ((hmem y).mp hy)), trivial⟩ (fun b hb => ⟨no.ok _ (usub b hb), trivial⟩) ⟨_, rfl, ?_⟩
      cases e : decide (y ∈ U) with
      | true => exact iteT' rfl (kp' _ _ (.refl _) e hvy)
      | false => exact iteF' rfl (dr' _ (.refl _) e)
    · rw [List.map_id] at hps2
      refine ⟨D2, _, rfl, hD5, trivial, fun od => ?_⟩
      have s6 : Same H4 (upd H5 D2 (.frz od (.lst ys2))) := s5.put hD2
      refine kp _ _ _ (s4.trans s6) (stab_nd _ _ _ _ (s4.trans s6).tupS hvx) ⟨D2, od, ys2, _, rfl, upd_same, Paired.mapP hps2 fun b v q => stab_nd _ _ b v (TupS.lst hD5) q, fun y => ?_⟩
      rw [List.mem_filter, decide_eq_true_iff, hmem]; rfl
  rw [List.map_id] at hvals
  have s23 := s3
  refine ⟨D, _, rfl, hD3, trivial, fun od => ?_⟩
  have s4 : Same H2 (upd H3 D (.frz od (.dT kvs))) := s3.put hD
  have t34 : TupS H3 (upd H3 D (.frz od (.dT kvs))) := .dT hD3
  have hB4 : upd H3 D (.frz od (.dT kvs)) D = some (.frz od (.dT kvs)) := upd_same
  have hv4 : Paired (RBes n U (upd H3 D (.frz od (.dT kvs)))) U (kvs.map (·.2)) := Paired.mapP hvals fun b v q => stab_bes _ _ b v t34 q
  generalize upd H3 D (.frz od (.dT kvs)) = H4 at s4 t34 hB4 hv4
  refine ⟨p, C, dx, _, rfl, s4 _ _ hob2, T.cl, T.beside, by simp, ?_⟩
  have hpf2 : putF (Str.ofString "beside") (V.ref D) [(("some" : Str), V.ref pa)] = [(("some" : Str), V.ref pa), (("beside" : Str), V.ref D)] := rfl
  rw [hpf2]
  have k5 : Keep [p] H4 (upd H4 p (.ins C dx [(("some" : Str), V.ref pa), (("beside" : Str), V.ref D)])) := .upd (by simp)
  have t5 : TupS H4 (upd H4 p (.ins C dx [(("some" : Str), V.ref pa), (("beside" : Str), V.ref D)])) := .ins (s4 _ _ hob2)
  have hob5 : upd H4 p (.ins C dx [(("some" : Str), V.ref pa), (("beside" : Str), V.ref D)]) p = some (.ins C dx [(("some" : Str), V.ref pa), (("beside" : Str), V.ref D)]) := upd_same
  generalize upd H4 p (.ins C dx [(("some" : Str), V.ref pa), (("beside" : Str), V.ref D)]) = H5 at k5 t5 hob5
  have t25 := s4.tupS.trans t5
  have hU5 : Paired (RNd H5) U uys := Paired.mapP hU2 fun b v q => stab_nd _ _ b v t25 q
  refine lc_tupR (fun R h => ⟨_, rfl, h⟩) (.inl (.inl (t25 _ _ hpa2 rfl))) hU5 stab_nd RNd stab_nd (pLeft fst) id (small1000 (Nat.le_trans ulen (by decide))) (fun x vx H6 R hx s6 hvx kp dr => ?_) fun L lys H6 hL s6 hL6 hlps => ?_
  · refine ⟨rfl, ?_⟩
    walk_at "nf"
    refine r_p0 hvx.at_ fun w1 hw1 => ?_
    rw [at_str.mp hw1]
    refine r_inS ((hvf2.tup t25).tup s6.tupS) (r_p1 hvx.at_ fun w2 hw2 => ?_)
    rw [at_int.mp hw2]
    refine ⟨_, _, rfl, rfl, (by show (0 : Int) < 2; decide), rfl, rfl, _, rfl, ?_⟩
    have e : decide (V.bl (decide (x.1 ∈ fst)) = V.bl (decide (V.int (x.2 % 2) = V.int 0))) = pLeft fst x := by
      unfold pLeft
      have e1 : decide (V.int (x.2 % 2) = V.int 0) = decide (x.2 % 2 = 0) := decide_eq_decide.mpr ⟨fun h => V.int.inj h, fun h => by rw [h]⟩
      rw [e1]
      exact decide_eq_decide.mpr ⟨fun h => V.bl.inj h, fun h => by rw [h]⟩
    rw [e]
    cases e2 : pLeft fst x with
    | true => exact iteT' rfl (kp _ _ (.refl _) e2 hvx)
    | false => exact iteF' rfl (dr _ (.refl _) e2)
  rw [List.map_id] at hlps
  refine ⟨L, _, rfl, hL6, trivial, fun ol => ?_⟩
  have s7 : Same H5 (upd H6 L (.frz ol (.lst lys))) := s6.put hL
  have t67 : TupS H6 (upd H6 L (.frz ol (.lst lys))) := .lst hL6
  have hL7 : upd H6 L (.frz ol (.lst lys)) L = some (.frz ol (.lst lys)) := upd_same
  have hl7 : Paired (RNd (upd H6 L (.frz ol (.lst lys)))) (U.filter (pLeft fst)) lys := Paired.mapP hlps fun b v q => stab_nd _ _ b v t67 q
  generalize upd H6 L (.frz ol (.lst lys)) = H7 at s7 t67 hL7 hl7
  refine ⟨p, C, dx, _, rfl, s7 _ _ hob5, T.cl, T.left, by simp, ?_⟩
  have hpf3 : putF (Str.ofString "left") (V.ref L) [(("some" : Str), V.ref pa), (("beside" : Str), V.ref D)] = [(("some" : Str), V.ref pa), (("beside" : Str), V.ref D), (("left" : Str), V.ref L)] := rfl
  rw [hpf3]
  have k8 : Keep [p] H7 (upd H7 p (.ins C dx [(("some" : Str), V.ref pa), (("beside" : Str), V.ref D), (("left" : Str), V.ref L)])) := .upd (by simp)
  have t8 : TupS H7 (upd H7 p (.ins C dx [(("some" : Str), V.ref pa), (("beside" : Str), V.ref D), (("left" : Str), V.ref L)])) := .ins (s7 _ _ hob5)
  have hob8 : upd H7 p (.ins C dx [(("some" : Str), V.ref pa), (("beside" : Str), V.ref D), (("left" : Str), V.ref L)]) p = some (.ins C dx [(("some" : Str), V.ref pa), (("beside" : Str), V.ref D), (("left" : Str), V.ref L)]) := upd_same
  generalize upd H7 p (.ins C dx [(("some" : Str), V.ref pa), (("beside" : Str), V.ref D), (("left" : Str), V.ref L)]) = H8 at k8 t8 hob8
  intro Mt hMt
  have s9 : Same H8 (upd H8 Mt (.dT [])) := .new hMt
  have hM9 : upd H8 Mt (.dT []) Mt = some (.dT []) := upd_same
  generalize upd H8 Mt (.dT []) = H9 at s9 hM9
  refine ⟨p, C, dx, _, rfl, s9 _ _ hob8, T.cl, T.mate_of, by simp, ?_⟩
  have hpf4 : putF (Str.ofString "mate_of") (V.ref Mt) [(("some" : Str), V.ref pa), (("beside" : Str), V.ref D), (("left" : Str), V.ref L)] = [(("some" : Str), V.ref pa), (("beside" : Str), V.ref D), (("left" : Str), V.ref L), (("mate_of" : Str), V.ref Mt)] := rfl
  rw [hpf4]
  have hpM : p ≠ Mt := ne_of_none hob8 hMt
  have kA : Keep [p] H9 (upd H9 p (.ins C dx [(("some" : Str), V.ref pa), (("beside" : Str), V.ref D), (("left" : Str), V.ref L), (("mate_of" : Str), V.ref Mt)])) := .upd (by simp)
  have tA : TupS H9 (upd H9 p (.ins C dx [(("some" : Str), V.ref pa), (("beside" : Str), V.ref D), (("left" : Str), V.ref L), (("mate_of" : Str), V.ref Mt)])) := .ins (s9 _ _ hob8)
  have hobA : upd H9 p (.ins C dx [(("some" : Str), V.ref pa), (("beside" : Str), V.ref D), (("left" : Str), V.ref L), (("mate_of" : Str), V.ref Mt)]) p = some (.ins C dx [(("some" : Str), V.ref pa), (("beside" : Str), V.ref D), (("left" : Str), V.ref L), (("mate_of" : Str), V.ref Mt)]) := upd_same
  have hMA : upd H9 p (.ins C dx [(("some" : Str), V.ref pa), (("beside" : Str), V.ref D), (("left" : Str), V.ref L), (("mate_of" : Str), V.ref Mt)]) Mt = some (.dT []) := by rw [upd_ne hpM.symm]; exact hM9
  generalize upd H9 p (.ins C dx [(("some" : Str), V.ref pa), (("beside" : Str), V.ref D), (("left" : Str), V.ref L), (("mate_of" : Str), V.ref Mt)]) = HA at kA tA hobA hMA
  have t8A := s9.tupS.trans tA
  have t7A := t8.trans t8A
  have hLA := t7A _ _ hL7 rfl
  have hlA : Paired (RNd HA) (U.filter (pLeft fst)) lys := Paired.mapP hl7 fun b v q => stab_nd _ _ b v t7A q
  have kHA : ∀ a o, a ≠ p → H a = some o → HA a = some o ∧ a ≠ Mt := fun a o ha e => by
    have hm : a ∉ [p] := fun h => ha (List.mem_singleton.mp h)
    have e8 := k8 a o hm (s7 _ _ (k5 a o hm (s4 _ _ (k2 a o hm (s1 _ _ e)))))
    exact ⟨kA a o hm (s9 _ _ e8), ne_of_none e8 hMt⟩
  obtain ⟨nb, hnb⟩ : ∃ nb : Node → List Node, ∀ x ∈ U, ∃ l o ys, valV kvs (nk x) = some (.ref l) ∧ H4 l = some (.frz o (.lst ys)) ∧ Paired (RNd H4) (nb x) ys ∧ ∀ y, y ∈ nb x ↔ AdjN n x y ∧ y ∈ U := by
    have : ∀ x, ∃ bl : List Node, x ∈ U → ∃ l o ys, valV kvs (nk x) = some (.ref l) ∧ H4 l = some (.frz o (.lst ys)) ∧ Paired (RNd H4) bl ys ∧ ∀ y, y ∈ bl ↔ AdjN n x y ∧ y ∈ U := fun x => by
      by_cases hx : x ∈ U
      · obtain ⟨v, e, l, o, ys, bl, e1, e2, e3, e4⟩ := bes_get hkeys hv4 hx
        exact ⟨bl, fun _ => ⟨l, o, ys, by rw [e, e1], e2, e3, e4⟩⟩
      · exact ⟨[], fun h => absurd h hx⟩
    exact ⟨fun x => Classical.choose (this x), fun x => Classical.choose_spec (this x)⟩
  have bes4 : BesAt H4 U nb D := ⟨od, kvs, hB4, fun x hx => let ⟨l, o, ys, e1, e2, e3, _⟩ := hnb x hx; ⟨l, o, ys, e1, e2, e3⟩⟩
  have besA : BesAt HA U nb D := bes4.tup ((t5.trans s7.tupS).trans t7A)
  have hnbm : ∀ x ∈ U, ∀ y, y ∈ nb x ↔ AdjN n x y ∧ y ∈ U := fun x hx => let ⟨_, _, _, _, _, _, e⟩ := hnb x hx; e
  have hnsub : ∀ x ∈ U, ∀ y ∈ nb x, y ∈ U := fun x hx y hy => ((hnbm x hx y).mp hy).2
  have hlsub : ∀ x ∈ U.filter (pLeft fst), x ∈ U := fun x hx => (List.mem_filter.mp hx).1
  have hbip : ∀ x ∈ U.filter (pLeft fst), ∀ y ∈ nb x, y ∉ U.filter (pLeft fst) := fun x hx y hy hy2 => by
    have h1 := ((hnbm x (hlsub x hx) y).mp hy).1
    have h2 := (pLeft_adj sd h1).mp (List.mem_filter.mp hx).2
    rw [(List.mem_filter.mp hy2).2] at h2
    cases h2
  refine ⟨p, C, dx, _, _, rfl, hobA, T.cl, T.left, rfl, ?_⟩
  refine for_listR (R := RNd) (xs := lys) (l := U.filter (pLeft fst)) (fun R h => h) ⟨lys, .inl (.inr ⟨ol, hLA⟩)⟩ (fun i σ' H' => ∃ u4 mm, σ' = [some (.ref p), some vn, some (.ref pa), some vf, u4, none] ∧ Keep [Mt] HA H' ∧ MmAt H' mm Mt ∧ mm.length ≤ 110 ∧ (mm.map (·.1)).Nodup ∧ (∀ y ∈ mm.map (·.1), y ∈ U) ∧ MOk nb (fun x => x ∈ U.filter (pLeft fst)) (gv mm) ∧ ∀ x ∈ (U.filter (pLeft fst)).take i, Proc nb (gv mm) x)
    (fun i σ' H' ⟨_, _, _, kp, _⟩ => ?_) ⟨none, [], rfl, .refl, ⟨[], hMA, rfl, .nil⟩, Nat.zero_le _, .nil, (fun _ h => nomatch h), (fun _ _ h => nomatch h), (fun _ h => by simp at h)⟩ (fun i y vy σ' H1 hy hpv hvy => ?_) fun σ' H1 hpv => ?_
  · have t : TupS HA H' := kp.tupS fun a ha o ho => by
      rw [List.mem_singleton.mp ha, hMA] at ho; cases ho; rfl
    exact ⟨.inl (.inr ⟨ol, t _ _ hLA rfl⟩), Paired.mapP hlA fun b v q => stab_nd _ _ b v t q⟩
  · obtain ⟨u4, mm, rfl, k1, m1, ml, mnd, msub, mok, mpr⟩ := hpv
    walk_at "nf"
    have t : ∀ {H'}, Keep [Mt] HA H' → TupS HA H' := fun k => k.tupS fun a ha o ho => by
      rw [List.mem_singleton.mp ha, hMA] at ho; cases ho; rfl
    obtain ⟨kvM, hM1, hMk⟩ := m1
    have pM : p ∉ [Mt] := fun h => hpM (List.mem_singleton.mp h)
    refine ⟨p, dx, _, rfl, k1 _ _ pM hobA, rfl, fun sd0 hsd0 => ?_⟩
    have hyl : y ∈ U.filter (pLeft fst) := List.mem_of_getElem? hy
    have s2 : Same H1 (upd H1 sd0 (.dT [])) := .new hsd0
    have hs2 : upd H1 sd0 (.dT []) sd0 = some (.dT (snK [])) := upd_same
    generalize upd H1 sd0 (.dT []) = H2 at s2 hs2
    have tk : (U.filter (pLeft fst)).take (i + 1) = (U.filter (pLeft fst)).take i ++ [y] := by rw [List.take_add_one, hy]; rfl
    refine ⟨p, sd0, L, D, Mt, U, nb, fun x => x ∈ U.filter (pLeft fst), .ref pa, vy, y, mm, [], rfl, ⟨⟨dx, s2 _ _ (k1 _ _ pM hobA)⟩, besA.tup ((t k1).trans s2.tupS)⟩, ⟨kvM, s2 _ _ hM1, hMk.tup s2.tupS⟩, hs2, stab_nd _ _ _ _ s2.tupS hvy, ne_of_none hM1 hsd0, und, ulen, ml, mnd, msub, hlsub y hyl, hyl, hnsub, mok, hlsub, .nil, (fun _ h => nomatch h), by rw [List.length_nil]; omega, fun b mm' sn' H3 k3 m3 s3 nd3 sub3 l3 mnd3 msub3 hw hlo => ?_⟩
    have kk : Keep [Mt] HA H3 := fun a o ha e => by
      have e1 := k1 a o ha e
      refine k3 a o ?_ (s2 _ _ e1)
      rw [List.mem_cons, List.mem_singleton]
      rintro (h | h)
      · exact ha (List.mem_singleton.mpr h)
      · exact ne_of_none e1 hsd0 h
    refine ⟨_, mm', rfl, kk, m3, l3, mnd3, msub3, ?_, fun x hx => ?_⟩
    · cases b with
      | true => exact (hw rfl).ok mok hyl
      | false => rw [(hlo rfl).1]; exact mok
    · rw [tk] at hx
      cases b with
      | true =>
        rcases List.mem_append.mp hx with h | h
        · exact (hw rfl).proc (mpr x h)
        · rw [List.mem_singleton.mp h]; exact (hw rfl).done
      | false =>
        obtain ⟨e, lo⟩ := hlo rfl
        subst e
        rcases List.mem_append.mp hx with h | h
        · exact mpr x h
        · rw [List.mem_singleton.mp h]; exact .inr lo.dead
  · obtain ⟨u4, mm, rfl, k1, m1, ml, mnd, msub, mok, mpr⟩ := hpv
    have t : TupS HA H1 := k1.tupS fun a ha o ho => by
      rw [List.mem_singleton.mp ha, hMA] at ho; cases ho; rfl
    rw [List.take_length] at mpr
    have pM : p ∉ [Mt] := fun h => hpM (List.mem_singleton.mp h)
    refine q L D Mt (U.filter (pLeft fst)) nb mm H1 (fun a o ha e => ?_) ⟨⟨⟨dx, k1 _ _ pM hobA⟩, besA.tup t⟩, ⟨ol, lys, t _ _ hLA rfl, Paired.mapP hlA fun b v q => stab_nd _ _ b v t q⟩, m1, und, ulen, ml, fun x hx => no.ok _ (usub x hx), und.sublist List.filter_sublist, hlsub, hnsub, hbip, mok, mpr, fun z hz => ?_, mnd⟩ hnbm fun x hx y hy h => ?_
    · obtain ⟨e1, e2⟩ := kHA a o (fun h => ha (List.mem_singleton.mpr h)) e
      exact k1 a o (fun h => e2 (List.mem_singleton.mp h)) e1
    · exact hlsub _ (mok z.1 z.2 (gv_mem mnd hz)).1
    · have := pLeft_adj sd h
      rw [List.mem_filter, List.mem_filter]
      constructor
      · intro h1 h2
        rw [this.mp h1.2] at h2
        cases h2.2
      · intro h1
        refine ⟨hx, this.mpr ?_⟩
        cases e : pLeft fst y with
        | false => rfl
        | true => exact absurd ⟨hy, e⟩ h1
end
end G3
end

/-! ## G3GA -/
section
set_option Elab.async false
set_option linter.all false
set_option maxRecDepth 100000
set_option maxHeartbeats 4000000
local macro_rules | `(tactic| walk_at "nf") => `(tactic| simp only [L2.tRet, L2.tRetN, L2.tAndV, L2.tOrV, L2.tNotV, L2.tCB, L2.tCons, L2.tNil, L2.tVar, L2.tC, L2.tDIn, L2.tDNotIn, L2.tDGet, L2.tOp, L2.tUn, L2.tTest, L2.tB, L2.tIf, L2.tIfS, L2.tAnd, L2.tOr, L2.tNot, L2.tSeq, L2.tAsg, L2.gName, L2.tDrop, L2.tNext, L2.tCall, L2.tTup, L2.tLst, L2.tBM, L2.tBM0, L2.tSl, L2.tPart, L2.tNoPart, L2.sDPut, L2.tFld, L2.sFld, L2.tMeth, L2.tYes, L2.gTup, L2.gCons, L2.gNil, L2.tIsN, L2.tNotN, L2.tPar, L2.tPar3, L2.tDNewK, L2.tDisp, L2.tPairs, L2.tDGet1, StX.tStar, L2.tMake, L2.tDNewT, G3.lcL_fld, G3.lcT_fld, G3.forL_fld, G3.tListVals, G3.lc2T_op, G3.lc2L_call, L2.tGThen, L2.tG0, L2.tPlain, L2.GEnds.at, L2.tGYield, L2.tCallG, L2.tListG, G3.tTupIx, G3.dcT_op, G3.tFrz, G3.dcI_frz, G3.lcI_frz, G3.lcY_frz, G3.lcI_call, G3.lcT_lit, G3.forT_lit, G3.lcL_call, G3.lcL_op, G3.lcL_dget, G3.lcT_call, G3.lcT_op, G3.lcT_dget, G3.forL_call, G3.forL_op, G3.forL_dget, G3.forT_call, G3.forT_op, G3.forT_dget, G3.ex_l1, G3.ex_l2, G3.ex_l3,
  G3.start_eq, G3.cxOf_K, G3.wipe_nil, G3.wipe_cons, List.map_cons, List.map_nil, List.nil_append, List.cons_append, List.append_nil, List.getElem?_cons_zero, List.getElem?_cons_succ, List.set_cons_zero, List.set_cons_succ, List.set_nil, List.length_cons, List.length_nil, List.replicate, Option.some.injEq, G3.ex_eq, Nat.reduceAdd, Nat.reduceSub, Nat.zero_add, List.replicate_succ, List.replicate_zero, true_and, if_true, if_false, Bool.false_eq_true, Nat.add_zero, Int.add_zero])
namespace G3
open PySem PySem.Spec PyProof.Rows L2

abbrev sGreatest : Stmt := top 51
abbrev sCover : Stmt := top 52
theorem scGreatest : FnScope ["network", "distance", "covering", "node"] ["network", "distance"] (defScope sGreatest) := ⟨rfl, rfl, rfl, by decide +kernel, rfl, by decide +kernel, by decide +kernel⟩
theorem scCover : FnScope ["network", "distance"] ["network", "distance"] (defScope sCover) := ⟨rfl, rfl, rfl, by decide +kernel, rfl, by decide +kernel, by decide +kernel⟩
/-- the class at C can be called -/
structure MkC (K : PySem.W.Frag) (C : Addr) : Prop where
  makes : PySem.W.makesIn K C = true
  kp : PySem.W.keepIn K (.ref C) = true
theorem pe_mk {X : Cx} {CX : CXT} {j k : Nat} {C : Addr} {ps : List Str} {sp : Sp} {E : XK} {x : Str} {p pos : Pos} {e : Expr} {es : List Expr} {t : TA} (M : MkC X.K C) (G : Mf X.prog X.w X.K X.mg X.base CX j C "__init__" ps sp) (hr : Room k X.A) (hm : X.mg x = some (.ref C)) (hx : Passes CX X E) (ha : PA X (e :: es) t) (hj : j + 1 ≤ k := by decide) (hg : Gl X x := by rfl)
    (hdb : (x == ("__debug__" : Str)) = false := by decide) (he : starEach (e :: es) X.env = (false, eval e X.env) :: starEach es X.env := by rfl) (hpl : (backTo pos (starEach es X.env)).any (·.1) = false := by rfl) : PE X (.Call (.Name x p) (e :: es) [] pos) (tMake C sp [] E t) := by
  obtain ⟨f, fd, hmt, hb, F⟩ := G
  exact pe_make ⟨M.makes, hmt.at_, hmt.fn, M.kp⟩ F (hr.mono hj) hg hm hb .nil hx ha hdb he hpl
theorem AdjN.symm {n : Net} {x y : Node} (h : AdjN n x y) : AdjN n y x := by
  rcases h with ⟨h, e⟩ | ⟨e, h⟩
  · exact .inl ⟨h.symm, e.symm⟩
  · refine .inr ⟨e.symm, ?_⟩
    rcases h with h | h
    · exact .inr (by omega)
    · exact .inl (by omega)
theorem flat_nodup {L : List Str} {I : List Int} (h1 : L.Nodup) (h2 : I.Nodup) : (L.flatMap fun s => I.map fun l => (s, l)).Nodup := by
  induction L with
  | nil => exact .nil
  | cons a L ih =>
    rw [List.flatMap_cons, List.nodup_append]
    rw [List.nodup_cons] at h1
    refine ⟨?_, ih h1.2, fun x hx y hy e => ?_⟩
    · exact List.pairwise_map.mpr (h2.imp fun hne e => hne (Prod.mk.inj e).2)
    · subst e
      obtain ⟨i, _, rfl⟩ := List.mem_map.mp hx
      obtain ⟨b, hb, hy⟩ := List.mem_flatMap.mp hy
      obtain ⟨j, _, e⟩ := List.mem_map.mp hy
      rw [(Prod.mk.inj e).1] at hb
      exact h1.1 hb
theorem irange_nodup {lo : Int} {n : Nat} : (irange lo n).Nodup := by
  unfold irange
  exact List.pairwise_map.mpr (List.nodup_range.imp fun {i j} hne e => hne (by omega))
theorem nodes_nodup {n : Net} (no : NetOk n) (d : Int) : (nodesOf n d).Nodup := flat_nodup (no.nd.sublist List.filter_sublist) irange_nodup
def spCover : Sp := fun vs H Q _ => ∃ (n : Net) (d : Int) (v : V), vs = [v, .int d] ∧ NetAt H n v ∧ NetOk n ∧ 0 ≤ d ∧ d ≤ 12 ∧ ∀ p (l : List Node) ys H', Same H H' → H' p = some (.tup ys) → Paired (RNd H') l ys → (∀ x ∈ l, x ∈ nodesOf n d) → (∀ x ∈ nodesOf n d, ∀ y ∈ nodesOf n d, AdjN n x y → x ∈ l ∨ y ∈ l) → l.length ≤ 110 → Q (.ref p) H'
/-- no two are adjacent -/
structure Apart (n : Net) (d : Int) (l : List Node) : Prop where
  sub : ∀ x ∈ l, x ∈ nodesOf n d
  apart : ∀ x ∈ l, ∀ y ∈ l, ¬ AdjN n x y
  nd : l.Nodup
def spGreatest : Sp := fun vs H Q _ => ∃ (n : Net) (d : Int) (v : V), vs = [v, .int d] ∧ NetAt H n v ∧ NetOk n ∧ 0 ≤ d ∧ d ≤ 12 ∧ ∀ p (l : List Node) ys H', Same H H' → H' p = some (.tup ys) → Paired (RNd H') l ys → Apart n d l → Q (.ref p) H'
section
variable {P : Program} {w : World} {K : PySem.W.Frag} {mg : Str → Option Value} {base : Heap} {C : Addr}
theorem ok_cover (T0 : Bt mg) (T : PCls K C) (M : MkC K C) (hC : mg "Pairing" = some (.ref C)) (G1 : Df P w K mg base CX0 2 "nodes" ["network", "distance"] spNodes) (G2 : Mf P w K mg base CX0 113 C "__init__" ["self", "network", "some"] (spPInit C)) (G3 : Mf P w K mg base CX0 2 C "covering" ["self"] (spCovering C)) (F : St0 K mg "cover" sCover) : Df P w K mg base CX0 115 "cover" ["network", "distance"] spCover := by
  refine F.ok0 scCover (fun vs H Q E h => ?_) (fun _ _ _ _ _ _ us hl => match us, hl with | [_, _], _ => rfl) fun f cdv A outer s H vs Q E hr h => ?_
  · obtain ⟨n, d, v, rfl, _⟩ := h
    rfl
  obtain ⟨n, d, v, rfl, hn, no, hd0, hd1, q⟩ := h
  refine ⟨_, pss_one (ps_ret (eTup K T0 (pe_mf0 G3 T.cl hr pass0 (pe_mk M G2 hr hC pass0 (pa_cons (pv 0) (pa_cons (pe_df G1 hr pass0 (pa_cons (pv 0) (pa_cons (pv 1) pa_nil))) pa_nil))) (by decide)))), ?_⟩
  walk_at "nf"
  refine ⟨n, d, v, rfl, hn, no, hd0, hd1, fun pa uys H1 s1 hpa huy x dx hx hdx hxd => ?_⟩
  have s2 : Same H1 (upd (upd H1 dx (.own x)) x (.ins C dx [])) := (Same.new hdx).trans (.new (by rw [upd_ne hxd.symm]; exact hx))
  have hob : upd (upd H1 dx (.own x)) x (.ins C dx []) x = some (.ins C dx []) := upd_same
  generalize upd (upd H1 dx (.own x)) x (.ins C dx []) = H2 at s2 hob
  refine ⟨x, dx, pa, n, v, nodesOf n d, uys, rfl, hob, hn.same (s1.trans s2), no, s2 _ _ hpa, Paired.mapP huy fun b v q => stab_nd _ _ b v s2.tupS q, nodes_nodup no d, nodes_len no hd1, fun x hx => (mem_nodes.mp hx).1, fun L B Mt left nb mm H3 k3 pd hnb hlr => ⟨rfl, ?_⟩⟩
  have s3 : Same H1 H3 := fun a o e => k3 a o (fun h => ne_of_none e hx (List.mem_singleton.mp h)) (s2 _ _ e)
  obtain ⟨dx', hob'⟩ := id pd.ob.ob
  refine ⟨x, dx', _, rfl, hob', rfl, x, L, B, Mt, pa, nodesOf n d, left, nb, mm, uys, rfl, pd, s3 _ _ hpa, Paired.mapP huy fun b v q => stab_nd _ _ b v s3.tupS q, fun D l ys H4 s4 hD hps hsub hcov hlen => ?_⟩
  refine ⟨D, ys, rfl, .inl ⟨.of hD, fun t ht => ?_⟩⟩
  have s5 : Same H4 (upd H4 t (.tup ys)) := .new ht
  refine q t l ys _ (s1.trans (s3.trans (s4.trans s5))) upd_same (Paired.mapP hps fun b v q => stab_nd _ _ b v s5.tupS q) hsub (fun a ha b hb hab => ?_) hlen
  by_cases h : a ∈ left
  · exact hcov a h b ((hnb a ha b).mpr ⟨hab, hb⟩)
  · have hb2 : b ∈ left := (hlr b hb a ha hab.symm).mpr h
    exact (hcov b hb2 a ((hnb b hb a).mpr ⟨hab.symm, ha⟩)).symm
theorem ok_greatest (T0 : Bt mg) (G1 : Df P w K mg base CX0 2 "nodes" ["network", "distance"] spNodes) (G2 : Df P w K mg base CX0 115 "cover" ["network", "distance"] spCover) (F : St0 K mg "greatest_apart" sGreatest) : Df P w K mg base CX0 116 "greatest_apart" ["network", "distance"] spGreatest := by
  refine F.ok0 scGreatest (fun vs H Q E h => ?_) (fun _ _ _ _ _ _ us hl => match us, hl with | [_, _], _ => rfl) fun f cdv A outer s H vs Q E hr h => ?_
  · obtain ⟨n, d, v, rfl, _⟩ := h
    rfl
  obtain ⟨n, d, v, rfl, hn, no, hd0, hd1, q⟩ := h
  refine ⟨_, pss_cons (ps_set (i := 2) scGreatest.nd rfl (Or.inr rfl) (pe_df G2 hr pass0 (pa_cons (pv 0) (pa_cons (pv 1) pa_nil))))
    (pss_one (ps_ret (eTup K T0 (pe_lc (own := [("node", 3)]) (g := gName 3) rfl scGreatest.nd (piT K (pe_df G1 hr pass0 (pa_cons (pv 0) (pa_cons (pv 1) pa_nil)))) (blkOk_by (by rfl)) (fun _ _ _ _ _ => pg_name (i := 3) scGreatest.nd rfl (Or.inl rfl))
      (fun _ _ _ _ _ => pts_one (pt_cmpR (op_notInE (α := Node) (hu65 hr)) (pv 3) (pv 2) rfl)) (fun _ _ _ _ _ => pv 3))))), ?_⟩
  walk_at "nf"
  refine ⟨n, d, v, rfl, hn, no, hd0, hd1, fun pc cov cys H1 s1 hpc hcy hcs hcov hcl => ?_⟩
  refine ⟨n, d, v, rfl, hn.same s1, no, hd0, hd1, fun pa uys H2 s2 hpa huy => ?_⟩
  have nok : ∀ x ∈ nodesOf n d, Enc.ok x := fun x hx => ⟨no.ok _ (mem_nodes.mp hx).1, trivial⟩
  refine lc_tupR (fun R h => h) (.inl (.inl hpa)) huy stab_nd RNd stab_nd (fun x => !decide (x ∈ cov)) id (small1000 (Nat.le_trans (nodes_len no hd1) (by decide))) (fun x vx H3 R hx s3 hvx kp dr => ?_) fun D ys H3 hD s3 hD3 hps => ?_
  · refine ⟨rfl, ?_⟩
    walk_at "nf"
    have s13 := s2.trans s3
    refine r_ninE (!decide (x ∈ cov)) (by simp) hvx.at_ (.inr ⟨pc, cys, rfl, .inl (s13 _ _ hpc), nds_at (Paired.mapP hcy fun b v q => stab_nd _ _ b v s13.tupS q)⟩) (nok x hx) (fun b hb => nok b (hcs b hb)) ⟨_, rfl, ?_⟩
    cases e : !decide (x ∈ cov) with
    | true => exact iteT' rfl (kp _ _ (.refl _) e hvx)
    | false => exact iteF' rfl (dr _ (.refl _) e)
  · rw [List.map_id] at hps
    refine ⟨D, ys, rfl, .inl ⟨.of hD3, fun t ht => ?_⟩⟩
    have s4 : Same H3 (upd H3 t (.tup ys)) := .new ht
    refine q t _ ys _ (s1.trans (s2.trans (s3.trans s4))) upd_same (Paired.mapP hps fun b v q => stab_nd _ _ b v s4.tupS q) ⟨fun x hx => (List.mem_filter.mp hx).1, fun x hx y hy h => ?_, (nodes_nodup no d).sublist List.filter_sublist⟩
    obtain ⟨h1, h2⟩ := List.mem_filter.mp hx
    obtain ⟨h3, h4⟩ := List.mem_filter.mp hy
    rcases hcov x h1 y h3 h with h5 | h5
    · simp [h5] at h2
    · simp [h5] at h4
end
end G3
end

/-! ## G3Along0 -/
section
set_option Elab.async false
set_option linter.all false
set_option maxRecDepth 100000
set_option maxHeartbeats 4000000
namespace G3
open PySem PySem.Spec PyProof.Rows L2

/-- neighbours -/
abbrev Nbr (n : Net) (s z : Str) : Prop := (s, z) ∈ n.2 ∨ (z, s) ∈ n.2
theorem batch {n : Net} {c : Cat} (ok : CatOk c) (no : NetOk n) {r : Str} (hr : r ∈ c.map (·.1)) : ∀ (ss : List Str) (st : State), StOk n c st → (∀ s ∈ ss, s ∈ n.1) → (∀ s ∈ ss, ∀ z, Nbr n s z → ∀ y, look n st z = some y → y ∈ mates c r) →
    ∃ st', Runs n c st (ss.map fun s => (s, r)) st' ∧ StOk n c st' ∧ ∀ s ∈ n.1, look n st' s = if s ∈ ss then some r else look n st s
  | [], st, h, _, _ => ⟨st, rfl, h, fun s _ => by rw [if_neg (by simp)]⟩
  | a :: ss, st, h, hs, hf => by
    obtain ⟨i, hi⟩ := List.mem_iff_getElem?.mp (hs a (by simp))
    have h1 : StOk n c (st.set i r) := h.set hr
    have lk := look_set no.nd h.len (r := r) hi
    have nin : ∀ s z, Nbr n s z → z ∈ n.1 := fun s z q => by
      rcases q with q | q
      · exact (no.tk _ q).2.1
      · exact (no.tk _ q).1
    obtain ⟨st', r1, r2, r3⟩ := batch ok no hr ss (st.set i r) h1 (fun s q => hs s (by simp [q])) (fun s q z nz y e => by
      rw [lk z (nin s z nz)] at e
      by_cases hz : z = a
      · rw [if_pos hz] at e
        cases e
        exact mates_self ok hr
      · rw [if_neg hz] at e
        exact hf s (by simp [q]) z nz y e)
    refine ⟨st', ⟨st.set i r, ⟨⟨i, hi, rfl⟩, hr, fun z nz y e => hf a (by simp) z nz y e⟩, r1⟩, r2, fun s q => ?_⟩
    rw [r3 s q, lk s q]
    by_cases h2 : s ∈ ss
    · rw [if_pos h2, if_pos (by simp [h2])]
    · rw [if_neg h2]
      by_cases h3 : s = a
      · rw [if_pos h3, if_pos (by simp [h3])]
      · rw [if_neg h3, if_neg (by simp [h2, h3])]
/-- the names of the releases on the way -/
structure NamesN (n : Net) (c : Cat) (x y : Str) (d : Int) (fs : List Str) : Prop where
  first : fs[0]? = some x
  last : ∃ r, fs = r ++ [y]
  sub : ∀ a ∈ fs, a ∈ c.map (·.1)
  len : fs.length ≤ 12
  ch : n.2 ≠ [] → ∀ i a b, fs[i]? = some a → fs[i + 1]? = some b → b ∈ mates c a
  lev : d + 1 ≤ fs.length
abbrev Halves := List (Str × List Str)
def logOf (hs : Halves) : Log := hs.flatMap fun q => q.2.map fun s => (s, q.1)
theorem logOf_app {a b : Halves} : logOf (a ++ b) = logOf a ++ logOf b := by unfold logOf; rw [List.flatMap_append]
def jumpL (I : List Node) (rn : Tab) (lv : Int) : List Str := (rn.map (·.1)).filter fun s => decide ((s, lv - 1) ∈ I)
def goL (I : List Node) (rn : Tab) (lv : Int) : List Str := (rn.filter fun p => decide (p.2 = lv - 1) && !decide ((p.1, lv) ∈ I)).map (·.1)
def setL (rn : Tab) (some : List Str) (lv : Int) : Tab := rn.map fun p => if p.1 ∈ some then (p.1, lv) else p
theorem setL_keys {rn : Tab} {some : List Str} {lv : Int} : (setL rn some lv).map (·.1) = rn.map (·.1) := by
  unfold setL
  rw [List.map_map]
  refine List.map_congr_left fun p _ => ?_
  show (if p.1 ∈ some then (p.1, lv) else p).1 = p.1
  by_cases h : p.1 ∈ some
  · rw [if_pos h]
  · rw [if_neg h]
theorem gv_setL {some : List Str} {lv : Int} {s : Str} : ∀ {rn : Tab}, gv (setL rn some lv) s = (gv rn s).map fun l => if s ∈ some then lv else l
  | [] => rfl
  | p :: rn => by
    have e : setL (p :: rn) some lv = (if p.1 ∈ some then (p.1, lv) else p) :: setL rn some lv := rfl
    rw [e, gv_cons, gv_cons, gv_setL]
    by_cases h : p.1 = s
    · subst h
      by_cases h2 : p.1 ∈ some
      · rw [if_pos h2, if_pos rfl, if_pos rfl, Option.map_some, if_pos h2]
      · rw [if_neg h2, if_pos rfl, if_pos rfl, Option.map_some, if_neg h2]
    · have h1 : (if p.1 ∈ some then (p.1, lv) else p).1 ≠ s := by
        by_cases h2 : p.1 ∈ some
        · rw [if_pos h2]; exact h
        · rw [if_neg h2]; exact h
      rw [if_neg h1, if_neg h]
/-- after i levels -/
structure HInv (n : Net) (c : Cat) (I : List Node) (fs : List Str) (x : Str) (svs : List Str) (i : Nat) (rn : Tab) (hs : Halves) : Prop where
  keys : rn.map (·.1) = svs
  lev : ∀ s l, gv rn s = some l → (((s, (i : Int)) ∉ I → l = i) ∧ ((s, (i : Int)) ∈ I → l = i - 1))
  run : ∃ st, Runs n c (List.replicate n.1.length x) (logOf hs) st ∧ StOk n c st ∧ ∀ s ∈ n.1, look n st s = match gv rn s with
    | some l => fs[l.toNat]?
    | none => some x
  len : hs.length = 2 * i
  hsub : ∀ q ∈ hs, q.2.length ≤ 10
theorem look_rep {n : Net} (no : NetOk n) {x s : Str} (h : s ∈ n.1) : look n (List.replicate n.1.length x) s = some x := by
  obtain ⟨i, hi⟩ := List.mem_iff_getElem?.mp h
  rw [look_at no.nd (by simp) hi, List.getElem?_replicate]
  have := (List.getElem?_eq_some_iff.mp hi).1
  rw [if_pos this]
theorem stOk_rep {n : Net} {c : Cat} {x : Str} (h : x ∈ c.map (·.1)) : StOk n c (List.replicate n.1.length x) := ⟨by simp, fun r hr => by rw [(List.mem_replicate.mp hr).2]; exact h⟩
def busy (n : Net) : List Str := n.1.filter fun s => !decide (s ∈ lones n)
theorem mem_busy {n : Net} {s : Str} : s ∈ busy n ↔ s ∈ n.1 ∧ adj n.2 s ≠ [] := by
  unfold busy lones
  rw [List.mem_filter]
  constructor
  · rintro ⟨h1, h2⟩
    refine ⟨h1, fun e => ?_⟩
    have : s ∈ n.1.filter fun s => (adj n.2 s).isEmpty := List.mem_filter.mpr ⟨h1, by rw [e]; rfl⟩
    rw [decide_eq_true this] at h2
    cases h2
  · rintro ⟨h1, h2⟩
    refine ⟨h1, ?_⟩
    have : s ∉ n.1.filter fun s => (adj n.2 s).isEmpty := fun h => by
      have := (List.mem_filter.mp h).2
      cases e : adj n.2 s with
      | nil => exact h2 e
      | cons a b => rw [e] at this; cases this
    rw [decide_eq_false this]; rfl
theorem nbr_busy {n : Net} (no : NetOk n) {s z : Str} (h : Nbr n s z) : z ∈ busy n := by
  refine mem_busy.mpr ⟨?_, fun e => ?_⟩
  · rcases h with q | q
    · exact (no.tk _ q).2.1
    · exact (no.tk _ q).1
  · have : s ∈ adj n.2 z := mem_adj.mpr h.symm
    rw [e] at this
    cases this
theorem hinv0 {n : Net} {c : Cat} {I : List Node} {fs : List Str} {x : Str} (no : NetOk n) {d : Int} (ap : Apart n d I) (hf : fs[0]? = some x) (hx : x ∈ c.map (·.1)) : HInv n c I fs x (busy n) 0 ((busy n).map fun s => (s, 0)) [] where
  keys := by rw [List.map_map]; exact List.map_id _
  lev := fun s l e => by
    obtain ⟨a, _, e2⟩ := List.mem_map.mp (gv_some e)
    have : l = 0 := (Prod.mk.inj e2).2.symm
    subst this
    refine ⟨fun _ => rfl, fun h => ?_⟩
    have := (mem_nodes.mp (ap.sub _ h)).2.2.1
    have := this
    omega
  run := ⟨_, rfl, stOk_rep hx, fun s hs => by
    rw [look_rep no hs]
    cases e : gv ((busy n).map fun s => (s, (0 : Int))) s with
    | none => rfl
    | some l =>
      obtain ⟨a, _, e2⟩ := List.mem_map.mp (gv_some e)
      have : l = 0 := (Prod.mk.inj e2).2.symm
      subst this
      exact hf.symm⟩
  len := rfl
  hsub := fun _ h => nomatch h
theorem HInv.step {n : Net} {c : Cat} {I : List Node} {fs : List Str} {x y : Str} {i : Nat} {rn : Tab} {hs : Halves} {d : Int} {r : Str} (ok : CatOk c) (no : NetOk n) (ap : Apart n d I) (nm : NamesN n c x y d fs) (h : HInv n c I fs x (busy n) i rn hs) (hr : fs[i + 1]? = some r) :
    HInv n c I fs x (busy n) (i + 1) (setL (setL rn (jumpL I rn (i + 1)) (i + 1)) (goL I rn (i + 1)) (i + 1)) (hs ++ [(r, jumpL I rn (i + 1)), (r, goL I rn (i + 1))]) := by
  have hrc : r ∈ c.map (·.1) := nm.sub r (List.mem_of_getElem? hr)
  have ndk : (rn.map (·.1)).Nodup := by rw [h.keys]; exact no.nd.sublist List.filter_sublist
  have inb : ∀ s l, gv rn s = some l → s ∈ busy n := fun s l e => by rw [← h.keys]; exact List.mem_map.mpr ⟨_, gv_some e, rfl⟩
  have bin : ∀ s, s ∈ busy n → ∃ l, gv rn s = some l := fun s e => gv_key (by rw [h.keys]; exact e)
  have hj : ∀ s, s ∈ jumpL I rn (i + 1) ↔ s ∈ busy n ∧ (s, (i : Int)) ∈ I := fun s => by
    unfold jumpL
    rw [List.mem_filter, h.keys, decide_eq_true_iff, show ((i : Int) + 1 - 1) = i by omega]
  have hg : ∀ s, s ∈ goL I rn (i + 1) ↔ gv rn s = some (i : Int) ∧ (s, (i : Int) + 1) ∉ I := fun s => by
    unfold goL
    rw [List.mem_map]
    constructor
    · rintro ⟨p, hp, rfl⟩
      obtain ⟨h1, h2⟩ := List.mem_filter.mp hp
      obtain ⟨h3, h4⟩ := Bool.and_eq_true_iff.mp h2
      have h3 := of_decide_eq_true h3
      rw [gv_mem ndk (show (p.1, p.2) ∈ rn from h1), h3, show ((i : Int) + 1 - 1) = i by omega]
      refine ⟨rfl, fun q => ?_⟩
      rw [decide_eq_true q] at h4
      cases h4
    · rintro ⟨h1, h2⟩
      refine ⟨(s, (i : Int)), List.mem_filter.mpr ⟨gv_some h1, ?_⟩, rfl⟩
      rw [decide_eq_false h2, decide_eq_true (by show (i : Int) = (i : Int) + 1 - 1; omega)]
      rfl
  obtain ⟨st, R1, so, lk⟩ := h.run
  have npos : n.2 ≠ [] → ∃ a, fs[i]? = some a ∧ r ∈ mates c a ∧ a ∈ mates c r := fun hn => by
    have hl := (List.getElem?_eq_some_iff.mp hr).1
    have e : fs[i]? = some (fs[i]'(by omega)) := List.getElem?_eq_getElem (by omega)
    have m := nm.ch hn i _ _ e hr
    exact ⟨_, e, m, mates_sym ok (nm.sub _ (List.mem_of_getElem? e)) m⟩
  have nbn : ∀ s z, Nbr n s z → n.2 ≠ [] := fun s z q e => by
    rcases q with q | q <;> · rw [e] at q; cases q
  have nin : ∀ s z, Nbr n s z → z ∈ n.1 := fun s z q => (mem_busy.mp (nbr_busy no q)).1
  -- the jump
  obtain ⟨st1, R2, so1, lk1⟩ := batch ok no hrc (jumpL I rn (i + 1)) st so (fun s q => (mem_busy.mp ((hj s).mp q).1).1) (fun s q z nz v e => by
    obtain ⟨hb, hI⟩ := (hj s).mp q
    obtain ⟨l, hl⟩ := bin z (nbr_busy no nz)
    have hzI : (z, (i : Int)) ∉ I := fun hz => ap.apart _ hI _ hz (.inl ⟨nz, rfl⟩)
    have := (h.lev z l hl).1 hzI
    subst this
    rw [lk z (nin s z nz), hl] at e
    obtain ⟨a, e1, _, m⟩ := npos (nbn s z nz)
    have e2 : fs[((i : Int)).toNat]? = some v := e
    rw [Int.toNat_natCast, e1] at e2
    cases e2
    exact m)
  obtain ⟨st2, R3, so2, lk2⟩ := batch ok no hrc (goL I rn (i + 1)) st1 so1 (fun s q => (mem_busy.mp (inb s _ ((hg s).mp q).1)).1) (fun s q z nz v e => by
    obtain ⟨hl0, hI0⟩ := (hg s).mp q
    have zn := nin s z nz
    rw [lk1 z zn] at e
    by_cases hz : z ∈ jumpL I rn (i + 1)
    · rw [if_pos hz] at e
      cases e
      exact mates_self ok hrc
    · rw [if_neg hz] at e
      obtain ⟨l, hl⟩ := bin z (nbr_busy no nz)
      have hzI : (z, (i : Int)) ∉ I := fun hz2 => hz ((hj z).mpr ⟨nbr_busy no nz, hz2⟩)
      have := (h.lev z l hl).1 hzI
      subst this
      rw [lk z zn, hl] at e
      obtain ⟨a, e1, _, m⟩ := npos (nbn s z nz)
      have e2 : fs[((i : Int)).toNat]? = some v := e
      rw [Int.toNat_natCast, e1] at e2
      cases e2
      exact m)
  have blen : (busy n).length ≤ 10 := Nat.le_trans (List.length_filter_le _ _) no.len
  refine ⟨by rw [setL_keys, setL_keys, h.keys], fun s l e => ?_, ⟨st2, ?_, so2, fun s hs => ?_⟩, by rw [List.length_append, h.len]; simp; omega, fun q hq => ?_⟩
  · rw [gv_setL, gv_setL] at e
    cases e0 : gv rn s with
    | none => rw [e0] at e; cases e
    | some l0 =>
      rw [e0] at e
      simp only [Option.map_some, Option.some.injEq] at e
      obtain ⟨a1, a2⟩ := h.lev s l0 e0
      by_cases hI : (s, (i : Int)) ∈ I
      · have hjs : s ∈ jumpL I rn (i + 1) := (hj s).mpr ⟨inb s _ e0, hI⟩
        rw [if_pos hjs] at e
        have e3 : l = (i : Int) + 1 := by
          by_cases h4 : s ∈ goL I rn (i + 1)
          · rw [if_pos h4] at e; exact e.symm
          · rw [if_neg h4] at e; exact e.symm
        refine ⟨fun _ => by rw [e3]; push_cast; rfl, fun h5 => (ap.apart (s, ((i + 1 : Nat) : Int)) h5 (s, (i : Int)) hI (.inr ⟨rfl, .inl (by show (i : Int) = ((i + 1 : Nat) : Int) - 1; omega)⟩)).elim⟩
      · have l0i := a1 hI
        have hjs : s ∉ jumpL I rn (i + 1) := fun q => hI ((hj s).mp q).2
        rw [if_neg hjs] at e
        subst l0i
        by_cases h5 : (s, (i : Int) + 1) ∈ I
        · have h4 : s ∉ goL I rn (i + 1) := fun q => ((hg s).mp q).2 h5
          rw [if_neg h4] at e
          refine ⟨fun h6 => absurd h5 (by push_cast at h6; exact h6), fun _ => by rw [← e]; push_cast; omega⟩
        · have h4 : s ∈ goL I rn (i + 1) := (hg s).mpr ⟨e0, h5⟩
          rw [if_pos h4] at e
          refine ⟨fun _ => by rw [← e]; push_cast; rfl, fun h6 => absurd (by push_cast at h6; exact h6) h5⟩
  · rw [logOf_app]
    refine R1.app ?_
    have e : logOf [(r, jumpL I rn (i + 1)), (r, goL I rn (i + 1))] = (jumpL I rn (i + 1)).map (fun s => (s, r)) ++ (goL I rn (i + 1)).map (fun s => (s, r)) := by
      unfold logOf
      rw [List.flatMap_cons, List.flatMap_cons, List.flatMap_nil, List.append_nil]
    rw [e]
    exact R2.app R3
  · rw [lk2 s hs, lk1 s hs, lk s hs, gv_setL, gv_setL]
    cases e0 : gv rn s with
    | none =>
      have hb : s ∉ busy n := fun q => by obtain ⟨l, e⟩ := bin s q; rw [e0] at e; cases e
      rw [if_neg (fun q => hb (inb s _ ((hg s).mp q).1)), if_neg (fun q => hb ((hj s).mp q).1)]
      rfl
    | some l0 =>
      simp only [Option.map_some]
      have e5 : fs[((i : Int) + 1).toNat]? = some r := by rw [show ((i : Int) + 1).toNat = i + 1 by omega]; exact hr
      by_cases h1 : s ∈ goL I rn (i + 1)
      · rw [if_pos h1, if_pos h1]
        exact e5.symm
      · rw [if_neg h1, if_neg h1]
        by_cases h2 : s ∈ jumpL I rn (i + 1)
        · rw [if_pos h2, if_pos h2]
          exact e5.symm
        · rw [if_neg h2, if_neg h2]
  · rcases List.mem_append.mp hq with hq | hq
    · exact h.hsub q hq
    · have hl1 : (jumpL I rn (i + 1)).length ≤ 10 := by
        unfold jumpL
        rw [h.keys]
        exact Nat.le_trans (List.length_filter_le _ _) blen
      have hl2 : (goL I rn (i + 1)).length ≤ 10 := by
        unfold goL
        rw [List.length_map]
        have e1 : rn.length = (busy n).length := by rw [← h.keys, List.length_map]
        exact Nat.le_trans (List.length_filter_le _ _) (by omega)
      rw [List.mem_cons, List.mem_singleton] at hq
      rcases hq with rfl | rfl
      · exact hl1
      · exact hl2
/-- where all levels are done -/
theorem HInv.done {n : Net} {c : Cat} {I : List Node} {fs : List Str} {x y : Str} {k : Nat} {rn : Tab} {hs : Halves} {d : Int} (ok : CatOk c) (no : NetOk n) (ap : Apart n d I) (nm : NamesN n c x y d fs) (hk : fs.length = k + 1) (h : HInv n c I fs x (busy n) k rn hs) :
    Runs n c (List.replicate n.1.length x) (logOf hs ++ (if 1 < fs.length then (lones n).map fun s => (s, y) else [])) (List.replicate n.1.length y) ∧ (logOf hs).length ≤ 220 := by
  obtain ⟨st, R1, so, lk⟩ := h.run
  have hy : fs[k]? = some y := by
    obtain ⟨r, e⟩ := nm.last
    have : r.length = k := by rw [e, List.length_append, List.length_singleton] at hk; omega
    rw [e, ← this]
    simp
  have hyc := nm.sub y (List.mem_of_getElem? hy)
  have lonb : ∀ s ∈ lones n, s ∈ n.1 ∧ s ∉ busy n := fun s hs => by
    refine ⟨(List.mem_filter.mp hs).1, fun hb => ?_⟩
    have h1 := (mem_busy.mp hb).2
    have h2 := (List.mem_filter.mp hs).2
    cases e : adj n.2 s with
    | nil => exact h1 e
    | cons a b => rw [e] at h2; cases h2
  have top : ∀ s ∈ n.1, s ∉ lones n → look n st s = some y := fun s hs hl => by
    have hb : s ∈ busy n := List.mem_filter.mpr ⟨hs, by rw [decide_eq_false hl]; rfl⟩
    obtain ⟨l, e⟩ := gv_key (l := rn) (k := s) (by rw [h.keys]; exact hb)
    rw [lk s hs, e]
    have hI : (s, (k : Int)) ∉ I := fun q => by
      have h1 := (mem_nodes.mp (ap.sub _ q)).2.2.2
      have h2 := nm.lev
      rw [hk] at h2
      push_cast at h2
      omega
    have := (h.lev s l e).1 hI
    subst this
    show fs[((k : Int)).toNat]? = some y
    rw [Int.toNat_natCast]
    exact hy
  have fin : ∀ st' : State, StOk n c st' → (∀ s ∈ n.1, look n st' s = some y) → st' = List.replicate n.1.length y := fun st' so' q => by
    refine List.eq_replicate_iff.mpr ⟨so'.len, fun a ha => ?_⟩
    obtain ⟨j, hj⟩ := List.mem_iff_getElem?.mp ha
    have hjl : j < n.1.length := by rw [← so'.len]; exact (List.getElem?_eq_some_iff.mp hj).1
    have e := q (n.1[j]) (List.getElem_mem hjl)
    rw [look_at no.nd so'.len (List.getElem?_eq_getElem hjl), hj] at e
    exact Option.some.inj e
  have hlen : (logOf hs).length ≤ 220 := by
    have := fm_bound (fun q : Str × List Str => q.2.map fun s => (s, q.1)) 10 hs (fun q hq => by rw [List.length_map]; exact h.hsub q hq)
    have h2 := nm.len
    have h3 := h.len
    have h4 : hs.length * 10 ≤ 22 * 10 := Nat.mul_le_mul_right _ (by omega)
    exact Nat.le_trans this h4
  refine ⟨?_, hlen⟩
  by_cases h1 : 1 < fs.length
  · rw [if_pos h1]
    obtain ⟨st', R2, so', lk'⟩ := batch ok no hyc (lones n) st so (fun s hs => (lonb s hs).1) (fun s hs z nz v e => by
      have : z ∈ adj n.2 s := mem_adj.mpr nz
      have h2 := (List.mem_filter.mp hs).2
      cases e : adj n.2 s with
      | nil => rw [e] at this; cases this
      | cons a b => rw [e] at h2; cases h2)
    have : st' = List.replicate n.1.length y := fin st' so' fun s hs => by
      rw [lk' s hs]
      by_cases hl : s ∈ lones n
      · rw [if_pos hl]
      · rw [if_neg hl]; exact top s hs hl
    rw [← this]
    exact R1.app R2
  · rw [if_neg h1, List.append_nil]
    have k0 : k = 0 := by omega
    subst k0
    have : st = List.replicate n.1.length y := fin st so fun s hs => by
      by_cases hl : s ∈ lones n
      · rw [lk s hs]
        have hb := (lonb s hl).2
        have e : gv rn s = none := gv_none.mpr (by rw [h.keys]; exact hb)
        rw [e]
        have hx := nm.first
        rw [hy] at hx
        exact hx.symm
      · exact top s hs hl
    rw [← this]
    exact R1
end G3
end

/-! ## G3Halves -/
section
set_option Elab.async false
set_option linter.all false
set_option maxRecDepth 100000
set_option maxHeartbeats 4000000
namespace G3
open PySem PySem.Spec PyProof.Rows L2

/-- the statement, and what the name i then holds stays as it is for good -/
def tFrzS (i : Nat) (t : TS) : TS := fun D σ H => t { D with nx := fun σ' H' => ∃ d u, σ'[i]? = some (some (.ref d)) ∧ H' d = some u ∧ Mut (some u) ∧ ∀ od, D.nx σ' (upd H' d (.frz od u)) } σ H
theorem ps_frzS {X : Cx} {st : Stmt} {t : TS} (i : Nat) (h : PS X st t) : PS X st (tFrzS i t) := by
  refine ⟨fun pins s σ H D I hw => ?_⟩
  refine thn (h.run pins s σ H _ I hw) fun f s1 q => ?_
  cases f with
  | next =>
    obtain ⟨σ', H', I2, d, u, _, hd, mu, q⟩ := q
    obtain ⟨od, I3⟩ := I2.lock hd mu
    exact ⟨σ', _, I3, q od⟩
  | brk => exact q
  | cont => exact q
  | ret v => exact q
end G3
local macro_rules | `(tactic| walk_at "nf") => `(tactic| simp only [L2.tRet, L2.tRetN, L2.tAndV, L2.tOrV, L2.tNotV, L2.tCB, L2.tCons, L2.tNil, L2.tVar, L2.tC, L2.tDIn, L2.tDNotIn, L2.tDGet, L2.tOp, L2.tUn, L2.tTest, L2.tB, L2.tIf, L2.tIfS, L2.tAnd, L2.tOr, L2.tNot, L2.tSeq, L2.tAsg, L2.gName, L2.tDrop, L2.tNext, L2.tCall, L2.tTup, L2.tLst, L2.tBM, L2.tBM0, L2.tSl, L2.tPart, L2.tNoPart, L2.sDPut, L2.tFld, L2.sFld, L2.tMeth, L2.tYes, L2.gTup, L2.gCons, L2.gNil, L2.tIsN, L2.tNotN, L2.tPar, L2.tPar3, L2.tDNewK, L2.tDisp, L2.tPairs, L2.tDGet1, StX.tStar, L2.tDNewT, L2.tLock, G3.tFrzS, L2.tMake, L2.tDNewT, G3.lcL_fld, G3.lcT_fld, G3.forL_fld, G3.tListVals, G3.lc2T_op, G3.lc2L_call, L2.tGThen, L2.tG0, L2.tPlain, L2.GEnds.at, L2.tGYield, L2.tCallG, L2.tListG, G3.tTupIx, G3.dcT_op, G3.tFrz, G3.dcI_frz, G3.lcI_frz, G3.lcY_frz, G3.lcI_call, G3.lcT_lit, G3.forT_lit, G3.lcL_call, G3.lcL_op, G3.lcL_dget, G3.lcT_call, G3.lcT_op, G3.lcT_dget, G3.forL_call, G3.forL_op, G3.forL_dget, G3.forT_call, G3.forT_op, G3.forT_dget, G3.ex_l1, G3.ex_l2, G3.ex_l3,
  G3.start_eq, G3.cxOf_K, G3.wipe_nil, G3.wipe_cons, List.map_cons, List.map_nil, List.nil_append, List.cons_append, List.append_nil, List.getElem?_cons_zero, List.getElem?_cons_succ, List.set_cons_zero, List.set_cons_succ, List.set_nil, List.length_cons, List.length_nil, List.replicate, Option.some.injEq, G3.ex_eq, Nat.reduceAdd, Nat.reduceSub, Nat.zero_add, List.replicate_succ, List.replicate_zero, true_and, if_true, if_false, Bool.false_eq_true, Nat.add_zero, Int.add_zero])
namespace G3
open PySem PySem.Spec PyProof.Rows L2

abbrev sHalves : Stmt := top 59
theorem scHalves : FnScope ["network", "names", "apart", "alone", "found", "running", "level", "jumping", "going", "some", "service", "at"] ["network", "names", "apart"] (defScope sHalves) := ⟨rfl, rfl, rfl, by decide +kernel, rfl, by decide +kernel, by decide +kernel⟩
/-- a name and the services that go there -/
def RHalf : Rel (Str × List Str) := fun H q v => ∃ p l o, v = .ref p ∧ H p = some (.tup [.str q.1, .ref l]) ∧ H l = some (.frz o (.lst (q.2.map V.str)))
theorem stab_half : Stab RHalf := fun H H' q v k ⟨p, l, o, e, h1, h2⟩ => ⟨p, l, o, e, k _ _ h1 rfl, k _ _ h2 rfl⟩
def RSome : Rel (List Str) := fun H q v => ∃ l o, v = .ref l ∧ H l = some (.frz o (.lst (q.map V.str)))
def repT (rn : Tab) : List (Key × V) := rn.map fun p => ((Sum.inr p.1 : Key), V.int p.2)
def spHalves : Sp := fun vs H Q _ => ∃ (n : Net) (c : Cat) (fs : List Str) (x y : Str) (d : Int) (I : List Node) (vn vf : V) (pa : Addr) (ias : List V), vs = [vn, vf, .ref pa] ∧ NetAt H n vn ∧ NetOk n ∧ CatOk c ∧ At H fs vf ∧ NamesN n c x y d fs ∧ H pa = some (.tup ias) ∧ Paired (RNd H) I ias ∧ Apart n d I ∧
  ∀ F ds hs H', Same H H' → H' F = some (.lst ds) → Paired (RHalf H') hs ds → (∃ rn k, fs.length = k + 1 ∧ HInv n c I fs x (busy n) k rn hs) → Q (.ref F) H'
theorem rep_of {H : Hp} {rn : Tab} {kvs : List (Key × V)} (h1 : kvs.map (·.1) = rn.map fun p => (Sum.inr p.1 : Key)) (h2 : kvs.map (·.2) = rn.map fun p => V.int p.2) : kvs = repT rn := by
  induction rn generalizing kvs with
  | nil =>
    cases kvs with
    | nil => rfl
    | cons a b => cases h1
  | cons p rn ih =>
    cases kvs with
    | nil => cases h1
    | cons q kvs =>
      rw [List.map_cons, List.map_cons] at h1 h2
      obtain ⟨a1, a2⟩ := List.cons.inj h1
      obtain ⟨b1, b2⟩ := List.cons.inj h2
      rw [ih a2 b2]
      show q :: repT rn = ((Sum.inr p.1 : Key), V.int p.2) :: repT rn
      rw [show q = ((Sum.inr p.1 : Key), V.int p.2) from Prod.ext a1 b1]
theorem jump_rep {I : List Node} {rn : Tab} {i : Int} : ((repT rn).filter fun kv => decide ((keyS kv, i) ∈ I)).map keyS = jumpL I rn (i + 1) := by
  unfold repT jumpL
  rw [List.filter_map, List.map_map, List.filter_map, show i + 1 - 1 = i by omega]
  rfl
def goK (I : List Node) (i : Int) (kv : Key × V) : Bool := match kv.2 with
  | .int l => decide (l = i) && !decide ((keyS kv, i + 1) ∈ I)
  | _ => false
theorem go_rep {I : List Node} {rn : Tab} {i : Int} : ((repT rn).filter (goK I i)).map keyS = goL I rn (i + 1) := by
  unfold repT goL
  rw [List.filter_map, List.map_map, show i + 1 - 1 = i by omega]
  rfl
theorem put_rep {s : Str} {lv : Int} {rn : Tab} (h : s ∈ rn.map (·.1)) : putK (repT rn) (Sum.inr s : Key) (.int lv) = repT (setL rn [s] lv) := by
  have ha : (repT rn).any (fun kv => decide (kv.1 = (Sum.inr s : Key))) = true := by
    obtain ⟨p, hp, e⟩ := List.mem_map.mp h
    exact List.any_eq_true.mpr ⟨_, List.mem_map.mpr ⟨p, hp, rfl⟩, decide_eq_true (by rw [e])⟩
  unfold putK
  rw [if_pos ha]
  unfold repT setL
  rw [List.map_map, List.map_map]
  refine List.map_congr_left fun p _ => ?_
  show (if (Sum.inr p.1 : Key) = Sum.inr s then ((Sum.inr p.1 : Key), V.int lv) else (Sum.inr p.1, V.int p.2)) = ((Sum.inr (if p.1 ∈ [s] then (p.1, lv) else p).1 : Key), V.int (if p.1 ∈ [s] then (p.1, lv) else p).2)
  by_cases e : p.1 = s
  · rw [if_pos (by rw [e]), if_pos (by rw [e]; simp)]
  · rw [if_neg (fun z => e (Sum.inr.inj z)), if_neg (by simp [e])]
theorem merge_rep {lv : Int} : ∀ {ss : List Str} {rn : Tab}, (∀ s ∈ ss, s ∈ rn.map (·.1)) → mergeK (repT rn) (ss.map fun s => ((Sum.inr s : Key), V.int lv)) = repT (setL rn ss lv)
  | [], rn, _ => by
    have : setL rn [] lv = rn := by
      unfold setL
      have : (fun p : Str × Int => if p.1 ∈ ([] : List Str) then (p.1, lv) else p) = id := funext fun p => if_neg (by simp)
      rw [this, List.map_id]
    rw [this]; rfl
  | s :: ss, rn, h => by
    show mergeK (putK (repT rn) (Sum.inr s) (.int lv)) (ss.map fun s => ((Sum.inr s : Key), V.int lv)) = _
    rw [put_rep (h s (by simp)), merge_rep (fun z hz => by rw [setL_keys]; exact h z (by simp [hz]))]
    congr 1
    unfold setL
    rw [List.map_map]
    refine List.map_congr_left fun p _ => ?_
    show (if (if p.1 ∈ [s] then (p.1, lv) else p).1 ∈ ss then ((if p.1 ∈ [s] then (p.1, lv) else p).1, lv) else (if p.1 ∈ [s] then (p.1, lv) else p)) = _
    by_cases e : p.1 = s
    · have e1 : p.1 ∈ [s] := by rw [e]; simp
      have e2 : p.1 ∈ s :: ss := by rw [e]; simp
      rw [if_pos e1, if_pos e2]
      by_cases e3 : p.1 ∈ ss
      · rw [if_pos e3]
      · rw [if_neg e3]
    · have e1 : p.1 ∉ [s] := by simp [e]
      rw [if_neg e1]
      by_cases e3 : p.1 ∈ ss
      · rw [if_pos e3, if_pos (by simp [e3])]
      · rw [if_neg e3, if_neg (by simp [e, e3])]
theorem fold_keys {lv : Int} : ∀ (l : List (List Str)) (rn : Tab), (l.foldl (fun t s => setL t s lv) rn).map (·.1) = rn.map (·.1)
  | [], rn => rfl
  | s :: l, rn => by rw [List.foldl_cons, fold_keys l, setL_keys]
/-- a loop over a tuple, its items by R -/
theorem for_tupR {α : Type} {K : PySem.W.Frag} {H1 : Hp} {σ : L2.St} {tl : TE} {g : TG} {tu : TS} {D : Ends} {p : Addr} {xs : List V} {l : List α} {R : Rel α} (hsrc : ∀ R : V → Hp → Prop, R (.ref p) H1 → tl σ H1 R) (Pv : Nat → L2.St → Hp → Prop) (hl : SqT K H1 p xs) (hT : ∀ i σ H, Pv i σ H → SqT K H p xs ∧ Paired (R H) l xs) (h0 : Pv 0 σ H1)
    (hs : ∀ (i : Nat) (a : α) (x : V) σ' H', l[i]? = some a → Pv i σ' H' → R H' a x → g x σ' H' fun σ2 H2 => tu { D with nx := Pv (i + 1), ct := Pv (i + 1), bk := D.nx } σ2 H2) (hd : ∀ σ' H', Pv l.length σ' H' → D.nx σ' H') : tFor (iTup K tl) g tu D σ H1 :=
  hsrc _ ⟨p, rfl, ⟨xs, hl⟩, for_src src_tupR Pv hT h0 (fun i a x σ' H' H2 e q s r => by subst s; exact hs i a x σ' H' e q r) hd⟩
section
variable {P : Program} {w : World} {K : PySem.W.Frag} {mg : Str → Option Value} {base : Heap}
theorem ok_halves (T : Bt mg) (G : Df P w K mg base CX0 2 "lone" ["network"] spLone) (F : St0 K mg "halves" sHalves) : Df P w K mg base CX0 3 "halves" ["network", "names", "apart"] spHalves := by
  refine F.ok0 scHalves (fun vs H Q E h => ?_) (fun _ _ _ _ _ _ us hl => match us, hl with | [_, _, _], _ => rfl) fun f cdv A outer s H vs Q E hr h => ?_
  · obtain ⟨n, c, fs, x, y, d, I, vn, vf, pa, ias, rfl, _⟩ := h
    rfl
  obtain ⟨n, c, fs, x, y, d, I, vn, vf, pa, ias, rfl, hn, no, co, hf, nm, hpa, hia, ap, q⟩ := h
  refine ⟨_, pss_cons (ps_asg (pe_tup (pa_cons (pe_df G hr pass0 (pa_cons (pv 0) pa_nil)) (pa_cons (pe_lst pa_nil) pa_nil))) (pg_tup rfl (pgs_cons (pg_name (i := 3) scHalves.nd rfl (Or.inr rfl)) (pgs_cons (pg_name (i := 4) scHalves.nd rfl (Or.inl rfl)) pgs_nil))))
    (pss_cons (ps_setDc (i := 5) (own := [("service", 10)]) (g := gName 10) rfl scHalves.nd rfl rfl (sw_trueD rfl rfl rfl (by decide +kernel)) (piT K (eT K (pv 0) pe_int)) (blkOk_by (by rfl))
        (fun _ _ _ _ _ => pg_name (i := 10) scHalves.nd rfl (Or.inl rfl)) (fun _ _ _ _ _ => pts_one (pt_cmpR (opNotInS K) (pv 10) (pv 3) rfl)) (fun _ _ _ _ _ => pv 10) (fun _ _ _ _ _ => pe_int))
    (pss_cons (ps_for PassesOwn.never rfl (pi_range2 rfl T.range (pa_cons pe_int (pa_cons (eLen K T (pv 1)) pa_nil))) (pg_name (i := 6) scHalves.nd rfl (Or.inr rfl))
      (pss_cons (ps_frzS 7 (ps_lock (ps_setLc (i := 7) (own := [("service", 10)]) (g := gName 10) rfl scHalves.nd rfl rfl (sw_true rfl rfl rfl (by decide +kernel)) (pi_keys (pv 5)) (blkOk_by (by rfl))
          (fun _ _ _ _ _ => pg_name (i := 10) scHalves.nd rfl (Or.inl rfl)) (fun _ _ _ _ _ => pts_one (pt_cmpR (op_inE (α := Node) (hu65 hr)) (pe_tup (pa_cons (pv 10) (pa_cons (pe_op op_sub (pv 6) pe_int) pa_nil))) (pv 2) rfl)) (fun _ _ _ _ _ => pv 10))))
      (pss_cons (ps_frzS 8 (ps_lock (ps_setLc (i := 8) (own := [("service", 10), ("at", 11)]) (g := gTup K 2 (gCons (gName 10) (gCons (gName 11) gNil))) rfl scHalves.nd rfl rfl (sw_true rfl rfl rfl (by decide +kernel)) (pi_items (pv 5)) (blkOk_by (by rfl))
          (fun _ _ _ _ _ => pg_tup rfl (pgs_cons (pg_name (i := 10) scHalves.nd rfl (Or.inl rfl)) (pgs_cons (pg_name (i := 11) scHalves.nd rfl (Or.inl rfl)) pgs_nil)))
          (fun _ _ _ _ _ => pts_one (PW.pt (pw_and (pt_cmpR op_eq (pv 11) (pe_op op_sub (pv 6) pe_int) (nomark _)) (pw_and1 (pt_cmpR (op_notInE (α := Node) (hu65 hr)) (pe_tup (pa_cons (pv 10) (pa_cons (pv 6) pa_nil))) (pv 2) rfl))))) (fun _ _ _ _ _ => pv 10))))
      (pss_one (ps_for PassesOwn.never rfl (piT K (pe_tup (pa_cons (pv 7) (pa_cons (pv 8) pa_nil)))) (pg_name (i := 9) scHalves.nd rfl (Or.inl rfl))
        (pss_cons (ps_expr (pe_bm PySem.F.plainAttrs_dict PySem.F.slot_dict_update PySem.F.type_dict_update mt_update (pv 5) (pa_cons (pe_dc (own := [("service", 10)]) (g := gName 10) rfl scHalves.nd (piL K (pv 9)) (blkOk_by (by rfl)) (fun _ _ _ _ _ => pg_name (i := 10) scHalves.nd rfl (Or.inl rfl)) (fun _ _ _ _ _ => pts_nil) (fun _ _ _ _ _ => pv 10) (fun _ _ _ _ _ => pv 6)) pa_nil)))
        (pss_one (ps_expr (pe_bm PySem.F.plainAttrs_list PySem.F.slot_list_append PySem.F.type_list_append mt_append (pv 4) (pa_cons (pe_tup (pa_cons (eT K (pv 1) (pv 6)) (pa_cons (pv 9) pa_nil))) pa_nil))))))))))
    (pss_one (ps_ret (pv 4))))), ?_⟩
  walk_at "nf"
  refine ⟨n, vn, rfl, hn, no, fun pl H1 s1 hl => ⟨by decide, fun F hF => ⟨by decide, fun pt hpt => ⟨pt, _, rfl, .inl (.inl upd_same), rfl, _, _, rfl, _, _, rfl, rfl, ?_⟩⟩⟩⟩
  have s2 : Same H1 (upd (upd H1 F (.lst [])) pt (.tup [.ref pl, .ref F])) := (Same.new hF).snew hpt
  have hF2 : upd (upd H1 F (.lst [])) pt (.tup [.ref pl, .ref F]) F = some (.lst []) := by rw [upd_ne (updN hpt).1.symm, upd_same]
  have hF0 : H F = none := s1.free hF
  generalize upd (upd H1 F (.lst [])) pt (.tup [.ref pl, .ref F]) = H2 at s2 hF2
  have s12 := s1.trans s2
  refine r_p0 (hn.same s12) fun w0 hw0 => ?_
  obtain ⟨p0, xs0, rfl, hp0, hx0⟩ := at_list.mp hw0
  refine dc_tup false (fun R h => h) (l := n.1) ⟨.inl hp0, hx0⟩ (RAt (α := Int)) stab_at.dict (fun s => !decide (s ∈ lones n)) id (fun _ => 0) (small64 (Nat.le_trans no.len (by decide))) (by rw [List.map_id]; exact no.nd.sublist List.filter_sublist) (fun sv x H3 R hsv s3 hx kp dr => ?_) fun R kvs H3 hR s3 hR3 hk hv _ => ?_
  · rw [at_str.mp hx]
    refine ⟨rfl, ?_⟩
    walk_at "nf"
    refine r_notInS (hl.same (s2.trans s3)) ⟨_, rfl, ?_⟩
    cases e : !decide (sv ∈ lones n) with
    | true => exact iteT' rfl (kp _ _ (.refl _) e (at_int.mpr rfl) (fun h => nomatch h))
    | false => exact iteF' rfl (dr _ (.refl _) e)
  have hrep : kvs = repT ((busy n).map fun s => (s, 0)) := rep_of (H := H3) (by rw [hk, List.map_map]; rfl) (by rw [al_int.mp (al_paired.mpr hv), List.map_map, List.map_map]; rfl)
  subst hrep
  have s13 := s12.trans s3
  have hR0 : H R = none := s12.free hR
  have hFR : F ≠ R := ne_of_none hF2 hR
  obtain ⟨k, hk1⟩ : ∃ k, fs.length = k + 1 := by
    cases e : fs with
    | nil => have := nm.first; rw [e] at this; cases this
    | cons a b => exact ⟨b.length, rfl⟩
  have hkl : ((fs.length : Int) - 1).toNat = k := by rw [hk1]; push_cast; omega
  have iok : ∀ x ∈ I, Enc.ok x := fun x hx => ⟨no.ok _ (mem_nodes.mp (ap.sub x hx)).1, trivial⟩
  have hIA : ∀ {H'}, Same H H' → SeqE H' I (.ref pa) := fun s => .inr ⟨pa, ias, rfl, .inl (s _ _ hpa), nds_at (Paired.mapP hia fun b v q => stab_nd _ _ b v s.tupS q)⟩
  refine for_range (lo := 1) (hi := fs.length) (fun R h => ⟨_, rfl, r_lenT' (hf.same s13) h⟩) (by have := nm.len; omega) (fun i σ' H' => ∃ u6 u7 u8 u9 rn hs ds, σ' = [some vn, some vf, some (.ref pa), some (.ref pl), some (.ref F), some (.ref R), u6, u7, u8, u9, none, none] ∧ Same H H' ∧ H' F = some (.lst ds) ∧ Paired (RHalf H') hs ds ∧ H' R = some (.dK (repT rn)) ∧ HInv n c I fs x (busy n) i rn hs)
    ⟨none, none, none, none, _, [], [], rfl, s13, s3 _ _ hF2, .nil, hR3, hinv0 no ap nm.first (nm.sub x (List.mem_of_getElem? nm.first))⟩ (fun i a σ' H4 ha hpv => ?_) fun σ' H4 hpv => ?_
  · obtain ⟨u6, u7, u8, u9, rn, hs, ds, rfl, s4, hF4, hds, hR4, hi⟩ := hpv
    have hik : i < k := by
      have := (List.getElem?_eq_some_iff.mp ha).1
      rw [irange_len, hkl] at this
      exact this
    have ea : a = (i : Int) + 1 := by
      rw [irange_get (by rw [hkl]; exact hik)] at ha
      have := Option.some.inj ha
      omega
    subst ea
    walk_at "nf"
    have rnl : rn.length ≤ 10 := by
      have : rn.length = (busy n).length := by rw [← hi.keys, List.length_map]
      rw [this]
      exact Nat.le_trans (List.length_filter_le _ _) no.len
    have kvl : (repT rn).length < sizeLine := by unfold repT; rw [List.length_map]; exact small64 (Nat.le_trans rnl (by decide))
    have rnm : ∀ p ∈ rn, p.1 ∈ n.1 := fun p hp => (mem_busy.mp (by rw [← hi.keys]; exact List.mem_map.mpr ⟨p, hp, rfl⟩)).1
    have kvm : ∀ kv ∈ repT rn, ∃ p ∈ rn, kv = ((Sum.inr p.1 : Key), V.int p.2) := fun kv hkv => let ⟨p, hp, e⟩ := List.mem_map.mp hkv; ⟨p, hp, e.symm⟩
    have i1 : ((i : Int) + 1 - 1) = i := by omega
    -- who jumps
    refine ⟨R, _, hR4, trivial, fun od => ?_⟩
    have s5 : Same H (upd H4 R (.frz od (.dK (repT rn)))) := s4.put hR0
    have hR5 : upd H4 R (.frz od (.dK (repT rn))) R = some (.frz od (.dK (repT rn))) := upd_same
    have k5 : Keep [R] H4 (upd H4 R (.frz od (.dK (repT rn)))) := .upd (by simp)
    have n5 : ∀ a, upd H4 R (.frz od (.dK (repT rn))) a = none → H4 a = none ∧ a ≠ R := fun a e => ⟨(updN e).2, (updN e).1⟩
    generalize upd H4 R (.frz od (.dK (repT rn))) = H5 at s5 hR5 k5 n5
    refine lc_keys (fun R h => ⟨_, rfl, h⟩) hR5 (RAt (α := Str)) stab_at (fun kv => decide ((keyS kv, (i : Int)) ∈ I)) keyS kvl (fun kv H6 R' hkv s6 kp dr => ?_) fun J ys H6 hJ s6 hJ6 hps => ?_
    · obtain ⟨p, hp, rfl⟩ := kvm kv hkv
      refine ⟨rfl, ?_⟩
      walk_at "nf"
      refine ⟨_, _, rfl, rfl, by decide, fun t ht => ?_⟩
      dsimp only
      rw [i1]
      have hat : At (upd H6 t (.tup [.str p.1, .int (i : Int)])) (p.1, (i : Int)) (.ref t) := RNd.at_ ⟨t, rfl, upd_same⟩
      refine r_iinE (decide ((p.1, (i : Int)) ∈ I)) (by simp) hat (hIA ((s5.trans s6).snew ht)) ⟨no.ok _ (rnm p hp), trivial⟩ iok ⟨_, rfl, ?_⟩
      cases e : decide ((p.1, (i : Int)) ∈ I) with
      | true => exact iteT' rfl (kp _ _ (.new ht) e (at_str.mpr rfl))
      | false => exact iteF' rfl (dr _ (.new ht) e)
    have hys : ys = (jumpL I rn (i + 1)).map V.str := by rw [← jump_rep]; exact strs_of hps
    subst hys
    have hRJ : R ≠ J := ne_of_none hR5 hJ
    refine ⟨s6 _ _ hR5, J, .lst ((jumpL I rn (i + 1)).map V.str), rfl, by rw [upd_ne hRJ.symm]; exact hJ6, trivial, fun oj => ?_⟩
    have k7 : Keep [R] H4 (upd (upd H6 R (.dK (repT rn))) J (.frz oj (.lst ((jumpL I rn (i + 1)).map V.str)))) := fun a o ha e => by
      have e1 := k5 a o ha e
      rw [upd_ne (ne_of_none e1 hJ), upd_ne (fun z => ha (List.mem_singleton.mpr z))]
      exact s6 _ _ e1
    have hR7 : upd (upd H6 R (.dK (repT rn))) J (.frz oj (.lst ((jumpL I rn (i + 1)).map V.str))) R = some (.dK (repT rn)) := by rw [upd_ne hRJ, upd_same]
    have hJ7 : upd (upd H6 R (.dK (repT rn))) J (.frz oj (.lst ((jumpL I rn (i + 1)).map V.str))) J = some (.frz oj (.lst ((jumpL I rn (i + 1)).map V.str))) := upd_same
    generalize upd (upd H6 R (.dK (repT rn))) J (.frz oj (.lst ((jumpL I rn (i + 1)).map V.str))) = H7 at k7 hR7 hJ7
    have s7 : Same H H7 := fun a o e => k7 a o (fun z => ne_of_none e hR0 (List.mem_singleton.mp z)) (s4 _ _ e)
    have t47 : TupS H4 H7 := k7.tupS fun a ha o ho => by rw [List.mem_singleton.mp ha, hR4] at ho; cases ho; rfl
    -- who goes
    refine ⟨R, _, hR7, trivial, fun od2 => ?_⟩
    have s8 : Same H (upd H7 R (.frz od2 (.dK (repT rn)))) := s7.put hR0
    have hR8 : upd H7 R (.frz od2 (.dK (repT rn))) R = some (.frz od2 (.dK (repT rn))) := upd_same
    have k8 : Keep [R] H7 (upd H7 R (.frz od2 (.dK (repT rn)))) := .upd (by simp)
    generalize upd H7 R (.frz od2 (.dK (repT rn))) = H8 at s8 hR8 k8
    refine lc_items (fun R h => ⟨_, rfl, h⟩) hR8 (RAt (α := Str)) stab_at (goK I i) keyS kvl (fun kv x' H9 R' hkv s9 hx' kp dr => ?_) fun G ys H9 hG s9 hG9 hps => ?_
    · obtain ⟨p, hp, rfl⟩ := kvm kv hkv
      refine g_item hx' ⟨rfl, ?_⟩
      walk_at "nf"
      refine ⟨_, _, rfl, rfl, ?_⟩
      dsimp only
      rw [i1]
      refine ⟨rfl, _, rfl, ?_⟩
      have e0 : decide (V.int p.2 = V.int (i : Int)) = decide (p.2 = (i : Int)) := decide_eq_decide.mpr ⟨fun h => V.int.inj h, fun h => by rw [h]⟩
      rw [e0]
      by_cases h1 : p.2 = (i : Int)
      · refine iteT' (decide_eq_true h1) ⟨by decide, fun t ht => ?_⟩
        have hat : At (upd H9 t (.tup [.str p.1, .int ((i : Int) + 1)])) (p.1, (i : Int) + 1) (.ref t) := RNd.at_ ⟨t, rfl, upd_same⟩
        refine r_ninE (!decide ((p.1, (i : Int) + 1) ∈ I)) (by simp) hat (hIA ((s8.trans s9).snew ht)) ⟨no.ok _ (rnm p hp), trivial⟩ iok ⟨_, rfl, ?_⟩
        have eg : goK I i ((Sum.inr p.1 : Key), V.int p.2) = !decide ((p.1, (i : Int) + 1) ∈ I) := by
          show (decide (p.2 = (i : Int)) && !decide ((p.1, (i : Int) + 1) ∈ I)) = _
          rw [decide_eq_true h1]; rfl
        rw [eg] at kp dr
        cases e : !decide ((p.1, (i : Int) + 1) ∈ I) with
        | true => exact iteT' rfl (kp _ _ (.new ht) e (at_str.mpr rfl))
        | false => exact iteF' rfl (dr _ (.new ht) e)
      · refine iteF' (decide_eq_false h1) (dr _ (.refl _) ?_)
        show (decide (p.2 = (i : Int)) && !decide ((p.1, (i : Int) + 1) ∈ I)) = false
        rw [decide_eq_false h1]; rfl
    have hys : ys = (goL I rn (i + 1)).map V.str := by rw [← go_rep]; exact strs_of hps
    subst hys
    have hRG : R ≠ G := ne_of_none hR8 hG
    refine ⟨s9 _ _ hR8, G, .lst ((goL I rn (i + 1)).map V.str), rfl, by rw [upd_ne hRG.symm]; exact hG9, trivial, fun og => ?_⟩
    have kA : Keep [R] H7 (upd (upd H9 R (.dK (repT rn))) G (.frz og (.lst ((goL I rn (i + 1)).map V.str)))) := fun a o ha e => by
      have e1 := k8 a o ha e
      rw [upd_ne (ne_of_none e1 hG), upd_ne (fun z => ha (List.mem_singleton.mpr z))]
      exact s9 _ _ e1
    have hRA : upd (upd H9 R (.dK (repT rn))) G (.frz og (.lst ((goL I rn (i + 1)).map V.str))) R = some (.dK (repT rn)) := by rw [upd_ne hRG, upd_same]
    have hGA : upd (upd H9 R (.dK (repT rn))) G (.frz og (.lst ((goL I rn (i + 1)).map V.str))) G = some (.frz og (.lst ((goL I rn (i + 1)).map V.str))) := upd_same
    generalize upd (upd H9 R (.dK (repT rn))) G (.frz og (.lst ((goL I rn (i + 1)).map V.str))) = HA at kA hRA hGA
    have sA : Same H HA := fun a o e => kA a o (fun z => ne_of_none e hR0 (List.mem_singleton.mp z)) (s7 _ _ e)
    have t7A : TupS H7 HA := kA.tupS fun a ha o ho => by rw [List.mem_singleton.mp ha, hR7] at ho; cases ho; rfl
    have nFR : F ∉ [R] := fun h => hFR (List.mem_singleton.mp h)
    have hFA := kA _ _ nFR (k7 _ _ nFR hF4)
    have hJA := t7A _ _ hJ7 rfl
    have hdsA : Paired (RHalf HA) hs ds := Paired.mapP hds fun b v q => stab_half _ _ b v (t47.trans t7A) q
    refine ⟨by decide, fun pt2 hpt2 => ?_⟩
    have sB : Same HA (upd HA pt2 (.tup [.ref J, .ref G])) := .new hpt2
    have hpB : upd HA pt2 (.tup [.ref J, .ref G]) pt2 = some (.tup [.ref J, .ref G]) := upd_same
    generalize upd HA pt2 (.tup [.ref J, .ref G]) = HB at sB hpB
    obtain ⟨r, hr1⟩ : ∃ r, fs[i + 1]? = some r := ⟨_, List.getElem?_eq_getElem (by omega)⟩
    refine for_tupR (R := RSome) (l := [jumpL I rn (i + 1), goL I rn (i + 1)]) (xs := [.ref J, .ref G]) (fun R h => h) (fun m σ' H' => ∃ u9 rn' ds', σ' = [some vn, some vf, some (.ref pa), some (.ref pl), some (.ref F), some (.ref R), some (.int (i + 1)), some (.ref J), some (.ref G), u9, none, none] ∧ Same H H' ∧ TupS HB H' ∧ H' F = some (.lst ds') ∧ Paired (RHalf H') (hs ++ ([jumpL I rn (i + 1), goL I rn (i + 1)].take m).map fun s => (r, s)) ds' ∧ H' R = some (.dK (repT rn')) ∧ rn' = ([jumpL I rn (i + 1), goL I rn (i + 1)].take m).foldl (fun t s => setL t s (i + 1)) rn)
      (.inl (.inl hpB)) (fun m σ' H' ⟨_, _, _, _, _, t, _⟩ => ⟨.inl (.inl (t _ _ hpB rfl)), .cons ⟨J, oj, rfl, t _ _ (sB _ _ hJA) rfl⟩ (.cons ⟨G, og, rfl, t _ _ (sB _ _ hGA) rfl⟩ .nil)⟩)
      ⟨u9, rn, ds, rfl, sA.trans sB, .refl, sB _ _ hFA, by rw [List.take_zero, List.map_nil, List.append_nil]; exact Paired.mapP hdsA fun b v q => stab_half _ _ b v sB.tupS q, sB _ _ hRA, rfl⟩ (fun m ss v σ' HC hss hpv hv => ?_) fun σ' HC hpv => ?_
    · obtain ⟨u9', rn', ds', rfl, c1, c2, c3, c4, c5, c6⟩ := hpv
      obtain ⟨lst, ol, rfl, hlst⟩ := hv
      walk_at "nf"
      have ndr : (rn.map (·.1)).Nodup := by rw [hi.keys]; exact no.nd.sublist List.filter_sublist
      have ssk : ss.Nodup ∧ (∀ s ∈ ss, s ∈ rn.map (·.1)) ∧ ss.length ≤ 10 := by
        have hm := List.mem_of_getElem? hss
        rw [List.mem_cons, List.mem_singleton] at hm
        rcases hm with rfl | rfl
        · refine ⟨ndr.sublist List.filter_sublist, fun s hs => (List.mem_filter.mp hs).1, ?_⟩
          refine Nat.le_trans (List.length_filter_le _ _) ?_
          rw [List.length_map]; exact rnl
        · refine ⟨ndr.sublist (List.filter_sublist.map _), fun s hs => ?_, ?_⟩
          · obtain ⟨p, hp, rfl⟩ := List.mem_map.mp hs
            exact List.mem_map.mpr ⟨p, (List.mem_filter.mp hp).1, rfl⟩
          · unfold goL
            rw [List.length_map]
            exact Nat.le_trans (List.length_filter_le _ _) rnl
      have kk : rn'.map (·.1) = rn.map (·.1) := by rw [c6]; exact fold_keys _ _
      refine ⟨.inr (.inr (.inl ⟨rfl, .inl ⟨_, c5⟩⟩)), ?_⟩
      refine dc_list false (fun R h => ⟨_, rfl, h⟩) (l := ss) ⟨.inl (.inr ⟨ol, hlst⟩), al_str.mpr rfl⟩ (RAt (α := Int)) stab_at.dict (fun _ => true) id (fun _ => (i : Int) + 1) (small64 (Nat.le_trans ssk.2.2 (by decide))) (by rw [filter_true, List.map_id]; exact ssk.1) (fun sv xv H2 R' hsv s2 hx2 kp dr => ?_) fun Dn kvs H2 hDn s2 hDn2 hk2 hv2 _ => ?_
      · rw [at_str.mp hx2]
        refine ⟨rfl, ?_⟩
        walk_at "nf"
        exact kp _ _ (.refl _) rfl (at_int.mpr rfl) (fun h => nomatch h)
      have hrep2 : kvs = ss.map fun s => ((Sum.inr s : Key), V.int ((i : Int) + 1)) := by
        have := rep_of (H := H2) (rn := ss.map fun s => (s, (i : Int) + 1)) (kvs := kvs) (by rw [hk2, filter_true, List.map_map]; rfl) (by rw [al_int.mp (al_paired.mpr hv2), filter_true, List.map_map, List.map_map]; rfl)
        rw [this]
        unfold repT
        rw [List.map_map]; rfl
      subst hrep2
      have rnl' : rn'.length ≤ 10 := by
        have := congrArg List.length kk
        rw [List.length_map, List.length_map] at this
        omega
      have hRD : R ≠ Dn := ne_of_none c5 hDn
      refine ⟨R, Dn, _, _, rfl, rfl, s2 _ _ c5, hDn2, hRD, ?_, ?_⟩
      · unfold repT
        rw [List.length_map, List.length_map]
        exact Nat.le_trans (Nat.add_le_add rnl' ssk.2.2) (by decide)
      rw [merge_rep (fun s hs => by rw [kk]; exact ssk.2.1 s hs)]
      have tD : TupS H2 (upd H2 R (.dK (repT (setL rn' ss (i + 1))))) := .dK (s2 _ _ c5)
      have f3 : upd H2 R (.dK (repT (setL rn' ss (i + 1)))) F = some (.lst ds') := by rw [upd_ne hFR]; exact s2 _ _ c3
      have r3 : upd H2 R (.dK (repT (setL rn' ss (i + 1)))) R = some (.dK (repT (setL rn' ss (i + 1)))) := upd_same
      have sD : Same H (upd H2 R (.dK (repT (setL rn' ss (i + 1))))) := (c1.trans s2).put hR0
      generalize upd H2 R (.dK (repT (setL rn' ss (i + 1)))) = H3' at tD f3 r3 sD
      refine ⟨.inl ⟨rfl, _, .of f3⟩, ?_⟩
      show rIxT K vf (V.int ((i + 1 : Nat) : Int)) _ _
      refine r_ixT (hf.same sD) hr1 fun w hw => ?_
      rw [at_str.mp hw]
      refine ⟨by decide, fun t ht => ?_⟩
      have sE : Same H3' (upd H3' t (.tup [.str r, .ref lst])) := .new ht
      have et : upd H3' t (.tup [.str r, .ref lst]) t = some (.tup [.str r, .ref lst]) := upd_same
      have eF := sE _ _ f3
      have eR := sE _ _ r3
      generalize upd H3' t (.tup [.str r, .ref lst]) = H4' at sE et eF eR
      have tF : TupS H4' (upd H4' F (.lst (ds' ++ [.ref t]))) := .lst eF
      have tall : TupS HC (upd H4' F (.lst (ds' ++ [.ref t]))) := ((s2.tupS.trans tD).trans sE.tupS).trans tF
      have tk : [jumpL I rn (i + 1), goL I rn (i + 1)].take (m + 1) = [jumpL I rn (i + 1), goL I rn (i + 1)].take m ++ [ss] := by rw [List.take_add_one, hss]; rfl
      have dl : ds'.length ≤ 1000 := by
        rw [← c4.length, List.length_append, hi.len, List.length_map]
        have h1 : ([jumpL I rn (i + 1), goL I rn (i + 1)].take m).length ≤ 2 := List.length_take_le' _ _
        have h2 := nm.len
        omega
      refine (r_app (K := K) eF dl ⟨_, setL rn' ss (i + 1), ds' ++ [.ref t], rfl, (sD.trans sE).put hF0, c2.trans tall, upd_same, ?_, by rw [upd_ne hFR.symm]; exact eR, ?_⟩).2
      · rw [tk, List.map_append, ← List.append_assoc]
        exact Paired.snoc (Paired.mapP c4 fun b v q => stab_half _ _ b v tall q) ⟨t, lst, ol, rfl, tF _ _ et rfl, tall _ _ hlst rfl⟩
      · rw [tk, List.foldl_append, ← c6]; rfl
    · obtain ⟨u9', rn', ds', rfl, c1, c2, c3, c4, c5, c6⟩ := hpv
      subst c6
      exact ⟨_, _, _, _, _, _, ds', rfl, c1, c3, c4, c5, hi.step co no ap nm hr1⟩
  · obtain ⟨u6, u7, u8, u9, rn, hs, ds, rfl, s4, hF4, hds, hR4, hi⟩ := hpv
    rw [hkl] at hi
    walk_at "nf"
    exact q F ds hs H4 s4 hF4 hds ⟨rn, k, hk1, hi⟩
end
end G3
end

/-! ## G3Along -/
section
set_option Elab.async false
set_option linter.all false
set_option maxRecDepth 100000
set_option maxHeartbeats 4000000
local macro_rules | `(tactic| walk_at "nf") => `(tactic| simp only [L2.tRet, L2.tRetN, L2.tAndV, L2.tOrV, L2.tNotV, L2.tCB, L2.tCons, L2.tNil, L2.tVar, L2.tC, L2.tDIn, L2.tDNotIn, L2.tDGet, L2.tOp, L2.tUn, L2.tTest, L2.tB, L2.tIf, L2.tIfS, L2.tAnd, L2.tOr, L2.tNot, L2.tSeq, L2.tAsg, L2.gName, L2.tDrop, L2.tNext, L2.tCall, L2.tTup, L2.tLst, L2.tBM, L2.tBM0, L2.tSl, L2.tPart, L2.tNoPart, L2.sDPut, L2.tFld, L2.sFld, L2.tMeth, L2.tYes, L2.gTup, L2.gCons, L2.gNil, L2.tIsN, L2.tNotN, L2.tPar, L2.tPar3, L2.tDNewK, L2.tDisp, L2.tPairs, L2.tDGet1, StX.tStar, L2.tDNewT, L2.tLock, G3.tFrzS, L2.tMake, L2.tDNewT, G3.lcL_fld, G3.lcT_fld, G3.forL_fld, G3.tListVals, G3.lc2T_op, G3.lc2L_call, L2.tGThen, L2.tG0, L2.tPlain, L2.GEnds.at, L2.tGYield, L2.tCallG, L2.tListG, G3.tTupIx, G3.dcT_op, G3.tFrz, G3.dcI_frz, G3.lcI_frz, G3.lcY_frz, G3.lcI_call, G3.lcT_lit, G3.forT_lit, G3.lcL_call, G3.lcL_op, G3.lcL_dget, G3.lcT_call, G3.lcT_op, G3.lcT_dget, G3.forL_call, G3.forL_op, G3.forL_dget, G3.forT_call, G3.forT_op, G3.forT_dget, G3.ex_l1, G3.ex_l2, G3.ex_l3,
  G3.start_eq, G3.cxOf_K, G3.wipe_nil, G3.wipe_cons, List.map_cons, List.map_nil, List.nil_append, List.cons_append, List.append_nil, List.getElem?_cons_zero, List.getElem?_cons_succ, List.set_cons_zero, List.set_cons_succ, List.set_nil, List.length_cons, List.length_nil, List.replicate, Option.some.injEq, G3.ex_eq, Nat.reduceAdd, Nat.reduceSub, Nat.zero_add, List.replicate_succ, List.replicate_zero, true_and, if_true, if_false, Bool.false_eq_true, Nat.add_zero, Int.add_zero])
namespace G3
open PySem PySem.Spec PyProof.Rows L2

abbrev sAlong : Stmt := top 60
theorem scAlong : FnScope ["network", "names", "apart", "found", "release", "some", "service"] ["network", "names", "apart"] (defScope sAlong) := ⟨rfl, rfl, rfl, by decide +kernel, rfl, by decide +kernel, by decide +kernel⟩
def spAlong : Sp := fun vs H Q _ => ∃ (n : Net) (c : Cat) (fs : List Str) (x y : Str) (d : Int) (I : List Node) (vn vf : V) (pa : Addr) (ias : List V), vs = [vn, vf, .ref pa] ∧ NetAt H n vn ∧ NetOk n ∧ CatOk c ∧ At H fs vf ∧ NamesN n c x y d fs ∧ H pa = some (.tup ias) ∧ Paired (RNd H) I ias ∧ Apart n d I ∧
  ∀ p (l : Log) H', Same H H' → At H' l (.ref p) → Runs n c (List.replicate n.1.length x) l (List.replicate n.1.length y) → l.length ≤ 230 → Q (.ref p) H'
theorem r_last {K : PySem.W.Frag} {H : Hp} {fs : List Str} {y : Str} {v : V} {Q : VK} (h : At H fs v) (e : ∃ r, fs = r ++ [y]) (q : Q (.str y) H) : rIxT K v (.int (-1)) H Q := by
  obtain ⟨p, rfl, hp⟩ := at_strs.mp h
  obtain ⟨r, rfl⟩ := e
  rw [List.map_append] at hp
  exact ⟨p, _, _, _, rfl, rfl, .inl hp, atI_last _ _, q⟩
section
variable {P : Program} {w : World} {K : PySem.W.Frag} {mg : Str → Option Value} {base : Heap}
theorem ok_along (T : Bt mg) (G1 : Df P w K mg base CX0 3 "halves" ["network", "names", "apart"] spHalves) (G2 : Df P w K mg base CX0 2 "lone" ["network"] spLone) (F : St0 K mg "along" sAlong) : Df P w K mg base CX0 4 "along" ["network", "names", "apart"] spAlong := by
  refine F.ok0 scAlong (fun vs H Q E h => ?_) (fun _ _ _ _ _ _ us hl => match us, hl with | [_, _, _], _ => rfl) fun f cdv A outer s H vs Q E hr h => ?_
  · obtain ⟨n, c, fs, x, y, d, I, vn, vf, pa, ias, rfl, _⟩ := h
    rfl
  obtain ⟨n, c, fs, x, y, d, I, vn, vf, pa, ias, rfl, hn, no, co, hf, nm, hpa, hia, ap, q⟩ := h
  refine ⟨_, pss_cons (ps_setLc2 (i := 3) (own := [("release", 4), ("some", 5), ("service", 6)]) (vs1 := [6]) (g := gTup K 2 (gCons (gName 4) (gCons (gName 5) gNil))) (g1 := gName 6) rfl scAlong.nd rfl rfl (sw_true rfl rfl rfl (by decide +kernel)) (piL K (pe_df G1 hr pass0 (pa_cons (pv 0) (pa_cons (pv 1) (pa_cons (pv 2) pa_nil))))) (blkOk_by (by rfl)) (by decide)
      (fun _ _ _ _ _ => pg_tup rfl (pgs_cons (pg_name (i := 4) scAlong.nd rfl (Or.inl rfl)) (pgs_cons (pg_name (i := 5) scAlong.nd rfl (Or.inl rfl)) pgs_nil))) (fun _ _ _ _ _ => pts_nil)
      (fun _ _ _ _ _ => piL K (pv 5)) (fun _ _ _ _ _ => pg_name (i := 6) scAlong.nd rfl (Or.inl rfl)) (fun _ _ _ _ _ => pts_nil) (fun _ _ _ _ _ => pe_tup (pa_cons (pv 6) (pa_cons (pv 4) pa_nil))))
    (pss_cons (ps_if (pt_cmpR op_gt (eLen K T (pv 1)) pe_int (nomark _))
      (pss_one (ps_expr (pe_bm PySem.F.plainAttrs_list PySem.F.slot_list_extend PySem.F.type_list_extend mt_extend (pv 3) (pa_cons (pe_lc (own := [("service", 6)]) (g := gName 6) rfl scAlong.nd (piT K (pe_df G2 hr pass0 (pa_cons (pv 0) pa_nil))) (blkOk_by (by rfl)) (fun _ _ _ _ _ => pg_name (i := 6) scAlong.nd rfl (Or.inl rfl)) (fun _ _ _ _ _ => pts_nil)
        (fun _ _ _ _ _ => pe_tup (pa_cons (pv 6) (pa_cons (eT K (pv 1) (pe_un un_neg pe_int)) pa_nil)))) pa_nil)))) pss_nil)
    (pss_one (ps_ret (eTup K T (pv 3))))), ?_⟩
  walk_at "nf"
  refine ⟨n, c, fs, x, y, d, I, vn, vf, pa, ias, rfl, hn, no, co, hf, nm, hpa, hia, ap, fun Fa ds hs H1 s1 hF hds ⟨rn, k, hk, hi⟩ => ?_⟩
  obtain ⟨hrun, hll⟩ := hi.done co no ap nm hk
  refine lc2_listR (RR := RHalf) (fun R h => h) (l := hs) ⟨.of hF, hds⟩ stab_half (RAt (α := Str × Str)) stab_at (fun _ => true) (fun q => q.2) (fun q s => (s, q.1)) ?_
    (fun q1 xv D2 H2 IN Sk hq hD2 s2 hx inn sk => ?_) fun D2 ys H2 hD2 s2 hD2' hp => ?_
  · rw [filter_true]
    exact small1000 (Nat.le_trans hll (by decide))
  · obtain ⟨p, l, o, rfl, e1, e2⟩ := hx
    refine ⟨p, _, rfl, .of e1, rfl, _, _, rfl, _, _, rfl, rfl, rfl, ?_⟩
    walk_at "nf"
    refine ⟨_, rfl, l, rfl, ⟨_, .inl (.inr ⟨o, e2⟩)⟩, inn rfl _ _ _ Eq (RAt (α := Str)) (GL K l (q1.2.map V.str) q1.2) (.refl _) src_list (fun a b e => by subst e; exact .refl _) (fun H' _ t => ⟨.inl (.inr ⟨o, t _ _ e2 rfl⟩), al_str.mpr rfl⟩) fun sv xv2 H6 R hsv s6 t6 hx2 kp => ?_⟩
    rw [at_str.mp hx2]
    refine ⟨rfl, ?_⟩
    walk_at "nf"
    exact ⟨by decide, fun t ht => kp _ _ (.new ht) (at_new2 ht (at_str.mpr rfl) (at_str.mpr rfl))⟩
  · rw [filter_true] at hp
    have hp : Paired (RAt (α := Str × Str) H2) (logOf hs) ys := hp
    refine r_lenT' (hf.same (s1.trans s2)) ⟨_, _, rfl, rfl, _, rfl, ?_⟩
    have e0 : decide ((1 : Int) < (fs.length : Int)) = decide (1 < fs.length) := decide_eq_decide.mpr (by omega)
    rw [e0]
    by_cases h1 : 1 < fs.length
    · rw [if_pos h1] at hrun
      refine iteT' (decide_eq_true h1) ⟨.inl ⟨rfl, _, .of hD2'⟩, n, vn, rfl, hn.same (s1.trans s2), no, fun pl H3 s3 hl => ?_⟩
      obtain ⟨pl', xl, e, hpl, hxl⟩ := at_list.mp hl
      cases e
      have lonl : (lones n).length ≤ 10 := Nat.le_trans (List.length_filter_le _ _) no.len
      refine lc_tup (fun R h => h) (l := lones n) ⟨.inl hpl, hxl⟩ (RAt (α := Str × Str)) stab_at (fun _ => true) (fun s => (s, y)) (small64 (Nat.le_trans lonl (by decide))) (fun sv xv H4 R hsv s4 hx kp dr => ?_) fun D3 zs H4 hD3 s4 hD3' hz => ?_
      · rw [at_str.mp hx]
        refine ⟨rfl, ?_⟩
        walk_at "nf"
        exact ⟨_, rfl, r_last (hf.same ((s1.trans s2).trans (s3.trans s4))) nm.last ⟨by decide, fun t ht => kp _ _ (.new ht) rfl (at_new2 ht (at_str.mpr rfl) (at_str.mpr rfl))⟩⟩
      · rw [filter_true] at hz
        have hD2f := s4 _ _ (s3 _ _ hD2')
        have t5 : TupS H4 (upd H4 D2 (.lst (ys ++ zs))) := .lst hD2f
        refine ⟨D2, D3, ys, zs, rfl, rfl, hD2f, hD3', ?_, r_tupL (l := logOf hs ++ (lones n).map fun s => (s, y)) upd_same ?_ fun p hp' ha => ?_⟩
        · rw [← hp.length, ← hz.length, List.length_map]
          exact Nat.le_trans (Nat.add_le_add hll lonl) (by decide)
        · exact al_paired.mp (Al.append (al_paired.mpr (Paired.mapP hp fun b v q => stab_at _ _ b v ((s3.trans s4).tupS.trans t5) q)) (al_paired.mpr (Paired.mapP hz fun b v q => stab_at _ _ b v t5 q)))
        · refine q p _ _ (((((s1.trans s2).trans s3).trans s4).put (s1.free hD2)).snew hp') ha hrun ?_
          rw [List.length_append, List.length_map]
          exact Nat.add_le_add hll lonl
    · rw [if_neg h1, List.append_nil] at hrun
      refine iteF' (decide_eq_false h1) (r_tupL (l := logOf hs) hD2' hp fun p hp' ha => q p _ _ ((s1.trans s2).snew hp') ha hrun (Nat.le_trans hll (by decide)))
end
end G3
end

/-! ## G3Err -/
section
set_option Elab.async false
set_option linter.all false
set_option maxRecDepth 100000
set_option maxHeartbeats 4000000
local macro_rules | `(tactic| walk_at "nf") => `(tactic| simp only [L2.tRet, L2.tRetN, L2.tAndV, L2.tOrV, L2.tNotV, L2.tCB, L2.tCons, L2.tNil, L2.tVar, L2.tC, L2.tDIn, L2.tDNotIn, L2.tDGet, L2.tOp, L2.tUn, L2.tTest, L2.tB, L2.tIf, L2.tIfS, L2.tAnd, L2.tOr, L2.tNot, L2.tSeq, L2.tAsg, L2.gName, L2.tDrop, L2.tNext, L2.tCall, L2.tTup, L2.tLst, L2.tBM, L2.tBM0, L2.tSl, L2.tPart, L2.tNoPart, L2.sDPut, L2.tFld, L2.sFld, L2.tMeth, L2.tYes, L2.gTup, L2.gCons, L2.gNil, L2.tIsN, L2.tNotN, L2.tPar, L2.tPar3, L2.tDNewK, L2.tDisp, L2.tPairs, L2.tDGet1, StX.tStar, L2.tVeI, L2.tOst, L2.tMkO, L2.tDNewT, L2.tLock, G3.tFrzS, L2.tMake, L2.tDNewT, G3.lcL_fld, G3.lcT_fld, G3.forL_fld, G3.tListVals, G3.lc2T_op, G3.lc2L_call, L2.tGThen, L2.tG0, L2.tPlain, L2.GEnds.at, L2.tGYield, L2.tCallG, L2.tListG, G3.tTupIx, G3.dcT_op, G3.tFrz, G3.dcI_frz, G3.lcI_frz, G3.lcY_frz, G3.lcI_call, G3.lcT_lit, G3.forT_lit, G3.lcL_call, G3.lcL_op, G3.lcL_dget, G3.lcT_call, G3.lcT_op, G3.lcT_dget, G3.forL_call, G3.forL_op, G3.forL_dget, G3.forT_call, G3.forT_op, G3.forT_dget, G3.ex_l1, G3.ex_l2, G3.ex_l3,
  G3.start_eq, G3.cxOf_K, G3.wipe_nil, G3.wipe_cons, List.map_cons, List.map_nil, List.nil_append, List.cons_append, List.append_nil, List.getElem?_cons_zero, List.getElem?_cons_succ, List.set_cons_zero, List.set_cons_succ, List.set_nil, List.length_cons, List.length_nil, List.replicate, Option.some.injEq, G3.ex_eq, Nat.reduceAdd, Nat.reduceSub, Nat.zero_add, List.replicate_succ, List.replicate_zero, true_and, if_true, if_false, Bool.false_eq_true, Nat.add_zero, Int.add_zero])
namespace G3
open PySem PySem.Spec PyProof.Rows L2

/-- the class UpgradeError, whose __init__ is ValueError's -/
structure UeC (K : PySem.W.Frag) (U : Addr) : Prop where
  ga : PySem.W.specialIn K (.ref U) "__getattribute__" = some (some (.builtin "type.__getattribute__"))
  ty : PySem.W.typeIn K (.ref U) = some (.type "type")
  rd : PySem.W.readsIn K U (.type "type") = true
  fi : PySem.W.findCls K (.ref U) (.type "type") "__init__" = some (.val (.builtin "ValueError.__init__"))
section
variable {X : Cx} {o e : Expr} {es : List Expr} {to te : TE} {ta : TA} {f : Str} {p p' p1 p2 pos : Pos} {U : Addr}
theorem pe_ueinit {pl : Sem Bool} (T : UeC X.K U) (hm : X.mg "UpgradeError" = some (.ref U)) (ha : PA X (e :: es) ta) (hg : Gl X "UpgradeError" := by rfl)
    (hc : eval (.Call (.Attribute (.Name "UpgradeError" p1) "__init__" p2) (e :: es) [] pos) X.env = (do
      let ov ← eval (.Name "UpgradeError" p1) X.env
      standAt p2.atName
      let (f, first) ← holding [ov] (getMethod ov "__init__" pl)
      callWith pos f first (backTo pos (starEach (e :: es) X.env)) (backToKw pos (keywordEach [] X.env))) := by rfl)
    (he : starEach (e :: es) X.env = (false, eval e X.env) :: starEach es X.env := by rfl) (hpl : (backTo pos (starEach es X.env)).any (·.1) = false := by rfl) :
    PE X (.Call (.Attribute (.Name "UpgradeError" p1) "__init__" p2) (e :: es) [] pos) (tVeI X.K ta) := by
  refine ⟨fun pins s σ H Q I h => ?_⟩
  refine PySem.W.methodCall_KW (ld_glob I hg hm ?_ (by decide)) hc
  obtain ⟨m, fr⟩ := I.fr
  refine PySem.W.method_of_cls fr I.ok.mod.kin T.ga (PySem.W.cls_val fr I.ok.mod.kin T.ty T.rd T.fi (by decide +kernel) ?_)
  show wpAny _ _ (callWith pos (Value.builtin "ValueError.__init__") [] (backTo pos (starEach (e :: es) X.env)) []) _ _ _
  refine PyProof.Rows.callWith_method1 (thn (ha.run pos pins _ σ H _ (I.tok _) h) fun us s1 ⟨vs, H1, I1, r1, a, C, ws, ev, hl, T, ea, q⟩ => ?_) he hpl
  subst ev
  cases r1 with
  | @cons _ u0 _ ur ra rw' =>
    obtain rfl : u0 = Value.ref a := ra
    have hlen : ur.length ≤ sizeLine := by
      rw [← Paired.length rw', sizeLine_eq]
      omega
    exact oinit_ok T I1 ea hlen fun s' J => ⟨.non, H1, J, rfl, q⟩
theorem pmk_ex {x : Str} {C : Addr} {j k : Nat} {ps : List Str} {sp : Sp} (T : OexC X.K C) (G : Mf X.prog X.w X.K X.mg X.base CX0 j C "__init__" ps sp) (hr : Room k X.A) (hm : X.mg x = some (.ref C)) (ha : PA X (e :: es) ta) (hj : j + 1 ≤ k := by decide) (hg : Gl X x := by rfl)
    (hdb : (x == ("__debug__" : Str)) = false := by decide) (he : starEach (e :: es) X.env = (false, eval e X.env) :: starEach es X.env := by rfl) (hpl : (backTo pos (starEach es X.env)).any (·.1) = false := by rfl) :
    PMk X (.Call (.Name x p) (e :: es) [] pos) (tMkO C sp [] ta) := by
  obtain ⟨f, fd, hmt, hb, F⟩ := G
  exact pmk_oex T hmt.at_ (beq_iff_eq.mp hmt.fn) F (hr.mono hj) hb .nil pass0 hg hm ha hdb he hpl
end
/-- an own exception's __init__ -/
def spExc (C : Addr) (f : Str) : Sp := fun vs H Q _ => ∃ (a : Addr) (v : V), vs = [.ref a, v] ∧ H a = some (exo a C none) ∧ ∀ dx, H dx = none → dx ≠ a → Q .non (upd (upd H dx (exd dx [(f, v)])) a (exo a C (some dx)))
/-- an own exception's class -/
structure ExC (K : PySem.W.Frag) (mg : Str → Option Value) (x f : Str) (C : Addr) : Prop where
  at_ : mg x = some (.ref C)
  oex : OexC K C
  fld : PySem.W.findIn K (.ref C) f = some none
abbrev sUnr : Stmt := meth 4 0
abbrev sBlk : Stmt := meth 8 0
abbrev sMix : Stmt := meth 9 0
theorem scUnr : FnScope ["self", "names"] ["self", "names"] (defScope sUnr) := ⟨rfl, rfl, rfl, by decide +kernel, rfl, by decide +kernel, by decide +kernel⟩
theorem scBlk : FnScope ["self", "services"] ["self", "services"] (defScope sBlk) := ⟨rfl, rfl, rfl, by decide +kernel, rfl, by decide +kernel, by decide +kernel⟩
theorem scMix : FnScope ["self", "present"] ["self", "present"] (defScope sMix) := ⟨rfl, rfl, rfl, by decide +kernel, rfl, by decide +kernel, by decide +kernel⟩
section
variable {P : Program} {w : World} {K : PySem.W.Frag} {mg : Str → Option Value} {base : Heap} {C U : Addr}
theorem ok_unr (hU : mg "UpgradeError" = some (.ref U)) (TU : UeC K U) (T : ExC K mg "Unreachable" "names" C) (F : StM K C "__init__" "Unreachable.__init__" sUnr) : Mf P w K mg base CX0 1 C "__init__" ["self", "names"] (spExc C "names") := by
  refine F.ok0 scUnr (fun vs H Q E h => ?_) (fun _ _ _ _ _ _ us hl => match us, hl with | [_, _], _ => rfl) fun f cdv A outer s H vs Q E hr h => ?_
  · obtain ⟨a, v, rfl, _⟩ := h
    rfl
  obtain ⟨a, v, rfl, ha, q⟩ := h
  refine ⟨_, pss_cons (ps_expr (pe_ueinit TU hU (pa_cons (pv 0) (pa_cons pe_str pa_nil)))) (pss_one (ps_ost (pv 0) (pv 1))), ?_⟩
  walk_at "nf"
  exact ⟨a, C, _, rfl, by decide, T.oex, ha, a, C, rfl, T.oex, T.fld, .inl ⟨ha, q⟩⟩
theorem ok_blk (hU : mg "UpgradeError" = some (.ref U)) (TU : UeC K U) (T : ExC K mg "Blocked" "services" C) (F : StM K C "__init__" "Blocked.__init__" sBlk) : Mf P w K mg base CX0 1 C "__init__" ["self", "services"] (spExc C "services") := by
  refine F.ok0 scBlk (fun vs H Q E h => ?_) (fun _ _ _ _ _ _ us hl => match us, hl with | [_, _], _ => rfl) fun f cdv A outer s H vs Q E hr h => ?_
  · obtain ⟨a, v, rfl, _⟩ := h
    rfl
  obtain ⟨a, v, rfl, ha, q⟩ := h
  refine ⟨_, pss_cons (ps_expr (pe_ueinit TU hU (pa_cons (pv 0) (pa_cons pe_str pa_nil)))) (pss_one (ps_ost (pv 0) (pv 1))), ?_⟩
  walk_at "nf"
  exact ⟨a, C, _, rfl, by decide, T.oex, ha, a, C, rfl, T.oex, T.fld, .inl ⟨ha, q⟩⟩
theorem ok_mix (hU : mg "UpgradeError" = some (.ref U)) (TU : UeC K U) (T : ExC K mg "Mixed" "present" C) (F : StM K C "__init__" "Mixed.__init__" sMix) : Mf P w K mg base CX0 1 C "__init__" ["self", "present"] (spExc C "present") := by
  refine F.ok0 scMix (fun vs H Q E h => ?_) (fun _ _ _ _ _ _ us hl => match us, hl with | [_, _], _ => rfl) fun f cdv A outer s H vs Q E hr h => ?_
  · obtain ⟨a, v, rfl, _⟩ := h
    rfl
  obtain ⟨a, v, rfl, ha, q⟩ := h
  refine ⟨_, pss_cons (ps_expr (pe_ueinit TU hU (pa_cons (pv 0) (pa_cons pe_str pa_nil)))) (pss_one (ps_ost (pv 0) (pv 1))), ?_⟩
  walk_at "nf"
  exact ⟨a, C, _, rfl, by decide, T.oex, ha, a, C, rfl, T.oex, T.fld, .inl ⟨ha, q⟩⟩
end
end G3
end

/-! ## G3Upg -/
section
set_option Elab.async false
set_option linter.all false
set_option maxRecDepth 100000
set_option maxHeartbeats 4000000
local macro_rules | `(tactic| walk_at "nf") => `(tactic| simp only [L2.tRet, L2.tRetN, L2.tAndV, L2.tOrV, L2.tNotV, L2.tCB, L2.tCons, L2.tNil, L2.tVar, L2.tC, L2.tDIn, L2.tDNotIn, L2.tDGet, L2.tOp, L2.tUn, L2.tTest, L2.tB, L2.tIf, L2.tIfS, L2.tAnd, L2.tOr, L2.tNot, L2.tSeq, L2.tAsg, L2.gName, L2.tDrop, L2.tNext, L2.tCall, L2.tTup, L2.tLst, L2.tBM, L2.tBM0, L2.tSl, L2.tPart, L2.tNoPart, L2.sDPut, L2.tFld, L2.sFld, L2.tMeth, L2.tYes, L2.gTup, L2.gCons, L2.gNil, L2.tIsN, L2.tNotN, L2.tPar, L2.tPar3, L2.tDNewK, L2.tDisp, L2.tPairs, L2.tDGet1, StX.tStar, L2.tVeI, L2.tOst, L2.tMkO, L2.tDNewT, L2.tLock, G3.tFrzS, L2.tMake, L2.tDNewT, G3.lcL_fld, G3.lcT_fld, G3.forL_fld, G3.tListVals, G3.lc2T_op, G3.lc2L_call, L2.tGThen, L2.tG0, L2.tPlain, L2.GEnds.at, L2.tGYield, L2.tCallG, L2.tListG, G3.tTupIx, G3.dcT_op, G3.tFrz, G3.dcI_frz, G3.lcI_frz, G3.lcY_frz, G3.lcI_call, G3.lcT_lit, G3.forT_lit, G3.lcL_call, G3.lcL_op, G3.lcL_dget, G3.lcT_call, G3.lcT_op, G3.lcT_dget, G3.forL_call, G3.forL_op, G3.forL_dget, G3.forT_call, G3.forT_op, G3.forT_dget, G3.ex_l1, G3.ex_l2, G3.ex_l3,
  G3.start_eq, G3.cxOf_K, G3.wipe_nil, G3.wipe_cons, List.map_cons, List.map_nil, List.nil_append, List.cons_append, List.append_nil, List.getElem?_cons_zero, List.getElem?_cons_succ, List.set_cons_zero, List.set_cons_succ, List.set_nil, List.length_cons, List.length_nil, List.replicate, Option.some.injEq, G3.ex_eq, Nat.reduceAdd, Nat.reduceSub, Nat.zero_add, List.replicate_succ, List.replicate_zero, true_and, if_true, if_false, Bool.false_eq_true, Nat.add_zero, Int.add_zero])
namespace G3
open PySem PySem.Spec PyProof.Rows L2

abbrev sNamesB : Stmt := top 54
abbrev sChecked : Stmt := top 56
abbrev sUpgrade : Stmt := top 57
theorem scNamesB : FnScope ["network", "catalog", "start", "end"] ["network", "catalog", "start", "end"] (defScope sNamesB) := ⟨rfl, rfl, rfl, by decide +kernel, rfl, by decide +kernel, by decide +kernel⟩
theorem scChecked : FnScope ["network", "catalog", "start", "end", "steps"] ["network", "catalog", "start", "end"] (defScope sChecked) := ⟨rfl, rfl, rfl, by decide +kernel, rfl, by decide +kernel, by decide +kernel⟩
theorem scUpgrade : FnScope ["network", "catalog", "start", "end", "steps"] ["network", "catalog", "start", "end"] (defScope sUpgrade) := ⟨rfl, rfl, rfl, by decide +kernel, rfl, by decide +kernel, by decide +kernel⟩
/-- the number of steps from x to y -/
def DistOk (n : Net) (c : Cat) (x y : Str) (d : Int) : Prop := (n.2 = [] → d = if x = y then 0 else 1) ∧ (n.2 ≠ [] → ∃ t, Levels c x t ∧ gv t y = some d)
theorem lev_chain {c : Cat} {x : Str} {t : Tab} (h : Levels c x t) : ∀ (k : Nat) (a : Str), gv t a = some (k : Int) → ∃ L : List Str, L.length = k + 1 ∧ L.Nodup ∧ ∀ b ∈ L, ∃ j : Int, gv t b = some j ∧ j ≤ k
  | 0, a, e => ⟨[a], rfl, by simp, fun b hb => ⟨0, by rw [List.mem_singleton.mp hb]; exact e, Int.le_refl _⟩⟩
  | k + 1, a, e => by
    obtain ⟨m, _, hm⟩ := h.pre a _ e (by omega)
    rw [show (((k + 1 : Nat) : Int) - 1) = (k : Int) by omega] at hm
    obtain ⟨L, l1, l2, l3⟩ := lev_chain h k m hm
    refine ⟨a :: L, by rw [List.length_cons, l1], List.nodup_cons.mpr ⟨fun ha => ?_, l2⟩, fun b hb => ?_⟩
    · obtain ⟨j, hj, hl⟩ := l3 a ha
      rw [e] at hj
      cases hj
      omega
    · rcases List.mem_cons.mp hb with rfl | hb
      · exact ⟨_, e, Int.le_refl _⟩
      · obtain ⟨j, hj, hl⟩ := l3 b hb
        exact ⟨j, hj, by omega⟩
theorem lev_bound {c : Cat} (ok : CatOk c) {x y : Str} {t : Tab} {d : Int} (h : Levels c x t) (e : gv t y = some d) : 0 ≤ d ∧ d ≤ 12 := by
  have h0 : 0 ≤ d := h.nn _ (gv_some e)
  obtain ⟨k, rfl⟩ : ∃ k : Nat, d = (k : Int) := ⟨d.toNat, by omega⟩
  obtain ⟨L, l1, l2, l3⟩ := lev_chain h k y e
  have := nodup_len l2 fun b hb => by
    obtain ⟨j, hj, _⟩ := l3 b hb
    exact h.sub _ (gv_some hj)
  rw [List.length_map] at this
  have := ok.len
  exact ⟨h0, by omega⟩
theorem talks_ok {n : Net} (no : NetOk n) : Enc.ok n.2 := fun p hp => ⟨no.ok _ (no.tk p hp).1, no.ok _ (no.tk p hp).2.1⟩
theorem r_exc {C : Addr} {f : Str} {v : V} {H1 : Hp} {W : Option Addr → Hp → Prop} (h : ∀ dd H', Same H1 H' → W dd H') : ∀ a, H1 a = none → spExc C f [.ref a, v] (upd H1 a (exo a C none)) (fun u H2 => u = .non ∧ ∃ (d : Addr) (fs : List (Str × V)), H2 a = some (exo a C (some d)) ∧ H2 d = some (exd d fs) ∧ H1 d = none ∧ W (some d) (upd (del H2 a) d (.xd fs))) (fun _ _ _ => False) := by
  intro a ha
  refine ⟨a, v, rfl, upd_same, fun dx hdx hne => ⟨rfl, dx, [(f, v)], upd_same, by rw [upd_ne hne, upd_same], (updN hdx).2, h _ _ fun b o e => ?_⟩⟩
  have h1 := ne_of_none e ha
  have h2 := ne_of_none e (updN hdx).2
  rw [upd_ne h2, del_ne h1, upd_ne h1, upd_ne h2, upd_ne h1]
  exact e
def spNamesB : Sp := fun vs H Q _ => ∃ (n : Net) (c : Cat) (x y : Str) (vn vc : V), vs = [vn, vc, .str x, .str y] ∧ NetAt H n vn ∧ NetOk n ∧ CatAt H c vc ∧ CatOk c ∧ x ∈ c.map (·.1) ∧ y ∈ c.map (·.1) ∧ (n.2 ≠ [] → ∀ t, Levels c y t → ∃ l, gv t x = some l) ∧
  ∀ p fs H', Same H H' → At H' fs (.ref p) → (∀ d, DistOk n c x y d → NamesN n c x y d fs) → Q (.ref p) H'
def spChecked (CU : Addr) : Sp := fun vs H Q E => ∃ (n : Net) (c : Cat) (x y : Str) (vn vc : V), vs = [vn, vc, .str x, .str y] ∧ NetAt H n vn ∧ NetOk n ∧ CatAt H c vc ∧ CatOk c ∧ x ∈ c.map (·.1) ∧ y ∈ c.map (·.1) ∧
  (∀ d H', Same H H' → DistOk n c x y d → 0 ≤ d → d ≤ 12 → Q (.int d) H') ∧ ∀ dd H', Same H H' → E (.ref CU) dd H'
def spUpgrade (CU : Addr) : Sp := fun vs H Q E => ∃ (n : Net) (c : Cat) (x y : Str) (vn vc : V), vs = [vn, vc, .str x, .str y] ∧ NetAt H n vn ∧ NetOk n ∧ CatAt H c vc ∧ CatOk c ∧ x ∈ c.map (·.1) ∧ y ∈ c.map (·.1) ∧
  (∀ p (l : Log) H', Same H H' → At H' l (.ref p) → Runs n c (List.replicate n.1.length x) l (List.replicate n.1.length y) → l.length ≤ 230 → Q (.ref p) H') ∧ ∀ dd H', Same H H' → E (.ref CU) dd H'
section
variable {P : Program} {w : World} {K : PySem.W.Frag} {mg : Str → Option Value} {base : Heap} {CU : Addr}
theorem ok_names (T : Bt mg) (G : Df P w K mg base CX0 3 "path" ["catalog", "start", "end"] spPath) (F : St0 K mg "names_between" sNamesB) : Df P w K mg base CX0 4 "names_between" ["network", "catalog", "start", "end"] spNamesB := by
  refine F.ok0 scNamesB (fun vs H Q E h => ?_) (fun _ _ _ _ _ _ us hl => match us, hl with | [_, _, _, _], _ => rfl) fun f cdv A outer s H vs Q E hr h => ?_
  · obtain ⟨n, c, x, y, vn, vc, rfl, _⟩ := h
    rfl
  obtain ⟨n, c, x, y, vn, vc, rfl, hn, no, hc, co, hx, hy, hreach, q⟩ := h
  refine ⟨_, pss_cons (ps_if (PW.pt (pw_and (pt_cmpR (opEqD K hr.units) (eT K (pv 0) pe_int) (pe_tup pa_nil) (nomark _)) (pw_and1 (pt_cmpR op_ne (pv 2) (pv 3) (nomark _)))))
      (pss_one (ps_ret (pe_tup (pa_cons (pv 2) (pa_cons (pv 3) pa_nil))))) pss_nil)
    (pss_one (ps_ret (pe_df G hr pass0 (pa_cons (pv 1) (pa_cons (pv 2) (pa_cons (pv 3) pa_nil)))))), ?_⟩
  walk_at "nf"
  refine r_p1 hn fun w1 hw1 => ⟨by decide, fun e he => ?_⟩
  have s1 : Same H (upd H e (.tup [])) := .new he
  refine r_eq (a := n.2) (a' := []) (hw1.same s1) (at_list.mpr ⟨e, [], rfl, .inl upd_same, .nil⟩) (talks_ok no) (fun _ h => nomatch h) ⟨_, rfl, ?_⟩
  have path : (n.2 = [] → x = y) → ∀ H1, Same H H1 → spPath [vc, .str x, .str y] H1 Q E0 := fun hxy H1 s2 => by
    refine ⟨c, vc, x, y, rfl, hc.tup s2.tupS, co, hx, hy, fun t ht => ?_, fun p fs H2 s3 nm ha => ?_⟩
    · by_cases h : n.2 = []
      · rw [hxy h]; exact ⟨0, ht.st⟩
      · exact hreach h t ht
    · refine q p fs H2 (s2.trans s3) ha fun d dk => ⟨nm.first, nm.last, nm.sub, nm.len, fun _ => nm.ch, ?_⟩
      by_cases h : n.2 = []
      · have := dk.1 h
        rw [if_pos (hxy h)] at this
        subst this
        have := (List.getElem?_eq_some_iff.mp nm.first).1
        omega
      · obtain ⟨t, ht, e⟩ := dk.2 h
        exact nm.lev t d ht e
  by_cases h : n.2 = []
  · refine iteT' (decide_eq_true h) ⟨rfl, _, rfl, ?_⟩
    by_cases h2 : x = y
    · subst h2
      exact iteF' (by rw [decide_eq_true rfl]; rfl) (path (fun _ => rfl) _ s1)
    · refine iteT' (by rw [decide_eq_false (fun z => h2 (V.str.inj z))]; rfl) ⟨by decide, fun p hp => q p [x, y] _ (s1.snew hp) (.new hp (al_str.mpr rfl)) fun d dk => ?_⟩
      have hd := dk.1 h
      rw [if_neg h2] at hd
      subst hd
      exact ⟨rfl, ⟨[x], rfl⟩, fun a ha => by
        rw [List.mem_cons, List.mem_singleton] at ha
        rcases ha with rfl | rfl
        · exact hx
        · exact hy, by simp, fun hn => absurd h hn, by simp⟩
  · exact iteF' (decide_eq_false h) (path (fun z => absurd z h) _ s1)
theorem ok_checked (T : Bt mg) (TC : ExC K mg "Unreachable" "names" CU) (G1 : Df P w K mg base CX0 3 "distance" ["catalog", "start", "end"] spDistance) (G2 : Df P w K mg base CX0 5 "sides" ["network"] spSides) (G3 : Df P w K mg base CX0 3 "reachable" ["catalog", "start"] spReachable)
    (GU : Mf P w K mg base CX0 1 CU "__init__" ["self", "names"] (spExc CU "names")) (F : St0 K mg "checked_distance" sChecked) : Df P w K mg base (CX P w) 6 "checked_distance" ["network", "catalog", "start", "end"] (spChecked CU) := by
  refine F.ok scChecked (fun vs H Q E h => ?_) (fun _ _ _ _ _ _ us hl => match us, hl with | [_, _, _, _], _ => rfl) fun f cdv A outer s H vs Q E hr h => ?_
  · obtain ⟨n, c, x, y, vn, vc, rfl, _⟩ := h
    rfl
  obtain ⟨n, c, x, y, vn, vc, rfl, hn, no, hc, co, hx, hy, q, qe⟩ := h
  refine ⟨_, pss_cons (ps_set (i := 4) scChecked.nd rfl (Or.inl rfl) (pe_df G1 hr pass0 (pa_cons (pv 1) (pa_cons (pv 2) (pa_cons (pv 3) pa_nil)))))
    (pss_cons (ps_expr (pe_df G2 hr pass0 (pa_cons (pv 0) pa_nil)))
    (pss_cons (ps_if (pt_cmpR (opEqD K hr.units) (eT K (pv 0) pe_int) (pe_tup pa_nil) (nomark _)) (pss_one (ps_ret (pe_callTy call_int1 rfl T.int boot_int (pa_cons (pe_cmpR op_ne (pv 2) (pv 3) (nomark _)) pa_nil) (by decide) (by decide) rfl))) pss_nil)
    (pss_cons (ps_if (pt_cmpR op_isN (pv 4) pe_non (nomark _)) (pss_one (ps_raise rfl (takes_of rfl rfl rfl rfl) (pmk_ex TC.oex GU hr TC.at_ (pa_cons (pe_df G3 hr pass0 (pa_cons (pv 1) (pa_cons (pv 2) pa_nil))) pa_nil)))) pss_nil)
    (pss_one (ps_ret (pv 4)))))), ?_⟩
  walk_at "nf"
  refine ⟨c, vc, x, y, rfl, hc, co, hx, hy, fun t H1 s1 lv => ⟨n, vn, rfl, hn.same s1, no, fun p1 fst snd H2 s2 _ _ => ?_⟩⟩
  have s12 := s1.trans s2
  refine r_p1 (hn.same s12) fun w1 hw1 => ⟨by decide, fun e he => ?_⟩
  have s3 : Same H2 (upd H2 e (.tup [])) := .new he
  refine r_eq (a := n.2) (a' := []) (hw1.same s3) (at_list.mpr ⟨e, [], rfl, .inl upd_same, .nil⟩) (talks_ok no) (fun _ h => nomatch h) ⟨_, rfl, ?_⟩
  have s13 := s12.trans s3
  by_cases h : n.2 = []
  · refine iteT' (decide_eq_true h) ?_
    have dk : DistOk n c x y (if x = y then 0 else 1) := ⟨fun _ => rfl, fun z => absurd h z⟩
    refine ⟨rfl, .inr ⟨_, rfl, ?_⟩⟩
    by_cases h2 : x = y
    · rw [if_pos h2] at dk
      subst h2
      rw [decide_eq_true rfl]
      exact q 0 _ s13 dk (by decide) (by decide)
    · rw [if_neg h2] at dk
      rw [decide_eq_false (fun z => h2 (V.str.inj z))]
      exact q 1 _ s13 dk (by decide) (by decide)
  · refine iteF' (decide_eq_false h) ?_
    cases eg : gv t y with
    | none =>
      refine ⟨_, rfl, iteT' rfl ⟨c, vc, x, rfl, hc.same s13, co, hx, fun p l H3 s4 ha => ⟨by decide, r_exc fun dd H4 s5 => qe dd H4 (s13.trans (s4.trans s5))⟩⟩⟩
    | some d =>
      obtain ⟨b1, b2⟩ := lev_bound co lv eg
      exact ⟨_, rfl, iteF' rfl (q d _ s13 ⟨fun z => absurd z h, fun _ => ⟨t, lv, eg⟩⟩ b1 b2)⟩
theorem ok_upgrade (G1 : Df P w K mg base (CX P w) 6 "checked_distance" ["network", "catalog", "start", "end"] (spChecked CU)) (G2 : Df P w K mg base CX0 4 "names_between" ["network", "catalog", "start", "end"] spNamesB) (G3 : Df P w K mg base CX0 116 "greatest_apart" ["network", "distance"] spGreatest) (G4 : Df P w K mg base CX0 4 "along" ["network", "names", "apart"] spAlong)
    (F : St0 K mg "upgrade" sUpgrade) : Df P w K mg base (CX P w) 117 "upgrade" ["network", "catalog", "start", "end"] (spUpgrade CU) := by
  refine F.ok scUpgrade (fun vs H Q E h => ?_) (fun _ _ _ _ _ _ us hl => match us, hl with | [_, _, _, _], _ => rfl) fun f cdv A outer s H vs Q E hr h => ?_
  · obtain ⟨n, c, x, y, vn, vc, rfl, _⟩ := h
    rfl
  obtain ⟨n, c, x, y, vn, vc, rfl, hn, no, hc, co, hx, hy, q, qe⟩ := h
  refine ⟨_, pss_cons (ps_set (i := 4) scUpgrade.nd rfl (Or.inl rfl) (pe_df G1 hr (passes_call (takes_of rfl rfl rfl rfl) fun _ _ _ _ h => h) (pa_cons (pv 0) (pa_cons (pv 1) (pa_cons (pv 2) (pa_cons (pv 3) pa_nil))))))
    (pss_one (ps_ret (pe_df G4 hr pass0 (pa_cons (pv 0) (pa_cons (pe_df G2 hr pass0 (pa_cons (pv 0) (pa_cons (pv 1) (pa_cons (pv 2) (pa_cons (pv 3) pa_nil))))) (pa_cons (pe_df G3 hr pass0 (pa_cons (pv 0) (pa_cons (pv 4) pa_nil))) pa_nil)))))), ?_⟩
  walk_at "nf"
  refine ⟨n, c, x, y, vn, vc, rfl, hn, no, hc, co, hx, hy, fun d H1 s1 dk d0 d1 => ?_, qe⟩
  refine ⟨n, c, x, y, vn, vc, rfl, hn.same s1, no, hc.same s1, co, hx, hy, fun h t ht => ?_, fun p fs H2 s2 hf hnm => ?_⟩
  · obtain ⟨t', ht', e⟩ := dk.2 h
    exact ht'.sym co ht e
  have s12 := s1.trans s2
  refine ⟨n, d, vn, rfl, hn.same s12, no, d0, d1, fun pa I ias H3 s3 hpa hia ap => ?_⟩
  have s13 := s12.trans s3
  exact ⟨n, c, fs, x, y, d, I, vn, .ref p, pa, ias, rfl, hn.same s13, no, co, hf.same s3, hnm d dk, hpa, hia, ap, fun pl l H4 s4 hl hrun hlen => q pl l H4 (s13.trans s4) hl hrun hlen⟩
end
end G3
end

/-! ## G3Fleet -/
section
set_option Elab.async false
set_option linter.all false
set_option maxRecDepth 100000
set_option maxHeartbeats 4000000
local macro_rules | `(tactic| walk_at "nf") => `(tactic| simp only [L2.tRet, L2.tRetN, L2.tAndV, L2.tOrV, L2.tNotV, L2.tCB, L2.tCons, L2.tNil, L2.tVar, L2.tC, L2.tDIn, L2.tDNotIn, L2.tDGet, L2.tOp, L2.tUn, L2.tTest, L2.tB, L2.tIf, L2.tIfS, L2.tAnd, L2.tOr, L2.tNot, L2.tSeq, L2.tAsg, L2.gName, L2.tDrop, L2.tNext, L2.tCall, L2.tTup, L2.tLst, L2.tBM, L2.tBM0, L2.tSl, L2.tPart, L2.tNoPart, L2.sDPut, L2.tFld, L2.sFld, L2.tMeth, L2.tYes, L2.gTup, L2.gCons, L2.gNil, L2.tIsN, L2.tNotN, L2.tPar, L2.tPar3, L2.tDNewK, L2.tDisp, L2.tPairs, L2.tDGet1, StX.tStar, L2.tVeI, L2.tOst, L2.tMkO, L2.tDNewT, L2.tLock, G3.tFrzS, L2.tMake, L2.tDNewT, G3.lcL_fld, G3.lcT_fld, G3.forL_fld, G3.tListVals, G3.lc2T_op, G3.lc2L_call, L2.tGThen, L2.tG0, L2.tPlain, L2.GEnds.at, L2.tGYield, L2.tCallG, L2.tListG, G3.tTupIx, G3.dcT_op, G3.tFrz, G3.dcI_frz, G3.lcI_frz, G3.lcY_frz, G3.lcI_call, G3.lcT_lit, G3.forT_lit, G3.lcL_call, G3.lcL_op, G3.lcL_dget, G3.lcT_call, G3.lcT_op, G3.lcT_dget, G3.forL_call, G3.forL_op, G3.forL_dget, G3.forT_call, G3.forT_op, G3.forT_dget, G3.ex_l1, G3.ex_l2, G3.ex_l3,
  G3.start_eq, G3.cxOf_K, G3.wipe_nil, G3.wipe_cons, List.map_cons, List.map_nil, List.nil_append, List.cons_append, List.append_nil, List.getElem?_cons_zero, List.getElem?_cons_succ, List.set_cons_zero, List.set_cons_succ, List.set_nil, List.length_cons, List.length_nil, List.replicate, Option.some.injEq, G3.ex_eq, Nat.reduceAdd, Nat.reduceSub, Nat.zero_add, List.replicate_succ, List.replicate_zero, true_and, if_true, if_false, Bool.false_eq_true, Nat.add_zero, Int.add_zero])
namespace G3
open PySem PySem.Spec PyProof.Rows L2

/-! ### the fleet -/
abbrev Mom := List (State × Log)
/-- the moments, the present one first -/
def MomAt (H : Hp) : Mom → V → Prop
  | [], v => v = .non
  | q :: r, v => ∃ p sv lv mv, v = .ref p ∧ H p = some (.tup [sv, lv, mv]) ∧ At H q.1 sv ∧ At H q.2 lv ∧ MomAt H r mv
theorem MomAt.tup {H H' : Hp} (k : TupS H H') : ∀ {ms : Mom} {v : V}, MomAt H ms v → MomAt H' ms v
  | [], v, h => h
  | q :: r, v, ⟨p, sv, lv, mv, e, h1, h2, h3, h4⟩ => ⟨p, sv, lv, mv, e, k _ _ h1 rfl, h2.tup k, h3.tup k, MomAt.tup k h4⟩
def flF (vn vc mv : V) : List (Str × V) := [("network_held", vn), ("catalog_held", vc), ("moment", mv)]
/-- the fleet at F -/
def FlAt (H : Hp) (C F : Addr) (vn vc : V) (ms : Mom) : Prop := ∃ dx mv, H F = some (.ins C dx (flF vn vc mv)) ∧ MomAt H ms mv
theorem FlAt.keep {H H' : Hp} {C F : Addr} {vn vc : V} {ms : Mom} {ps : List Addr} (h : FlAt H C F vn vc ms) (k : Keep ps H H') (t : TupS H H') (hF : F ∉ ps) : FlAt H' C F vn vc ms :=
  let ⟨dx, mv, e, m⟩ := h
  ⟨dx, mv, k _ _ hF e, m.tup t⟩
theorem FlAt.same {H H' : Hp} {C F : Addr} {vn vc : V} {ms : Mom} (h : FlAt H C F vn vc ms) (s : Same H H') : FlAt H' C F vn vc ms :=
  let ⟨dx, mv, e, m⟩ := h
  ⟨dx, mv, s _ _ e, m.tup s.tupS⟩
/-- what a fleet's network and catalog are -/
structure FC (H : Hp) (n : Net) (c : Cat) (vn vc : V) : Prop where
  net : NetD H n vn
  no : NetOk n
  cat : CatAt H c vc
  co : CatOk c
theorem FC.tup {H H' : Hp} {n : Net} {c : Cat} {vn vc : V} (h : FC H n c vn vc) (k : TupS H H') : FC H' n c vn vc := ⟨h.net.tup k, h.no, h.cat.tup k, h.co⟩
theorem FC.same {H H' : Hp} {n : Net} {c : Cat} {vn vc : V} (h : FC H n c vn vc) (s : Same H H') : FC H' n c vn vc := h.tup s.tupS
/-- the class Fleet -/
structure FCls (K : PySem.W.Frag) (C : Addr) : Prop where
  cl : Cls K C
  net : NoAttr K C "network_held"
  cat : NoAttr K C "catalog_held"
  mom : NoAttr K C "moment"
abbrev fm (j : Nat) : Stmt := meth 62 j
abbrev sFInit : Stmt := fm 1
abbrev sFEq : Stmt := fm 2
abbrev sFLog : Stmt := fm 8
abbrev sFStore : Stmt := fm 9
abbrev sFCheck : Stmt := fm 10
abbrev sFReplace : Stmt := fm 11
abbrev sFSched : Stmt := fm 12
abbrev sFUpgrade : Stmt := fm 13
abbrev sFTried : Stmt := fm 14
abbrev sFUndo : Stmt := fm 15
abbrev sFTwin : Stmt := fm 16
abbrev sFCopy : Stmt := fm 17
theorem scFInit : FnScope ["self", "network", "catalog", "start"] ["self", "network", "catalog", "start"] (defScope sFInit) := ⟨rfl, rfl, rfl, by decide +kernel, rfl, by decide +kernel, by decide +kernel⟩
theorem scFLog : FnScope ["self"] ["self"] (defScope sFLog) := ⟨rfl, rfl, rfl, by decide +kernel, rfl, by decide +kernel, by decide +kernel⟩
theorem scFStore : FnScope ["self", "present", "replacements"] ["self", "present", "replacements"] (defScope sFStore) := ⟨rfl, rfl, rfl, by decide +kernel, rfl, by decide +kernel, by decide +kernel⟩
theorem scFTried : FnScope ["self", "schedule"] ["self", "schedule"] (defScope sFTried) := ⟨rfl, rfl, rfl, by decide +kernel, rfl, by decide +kernel, by decide +kernel⟩
def spFInit (C : Addr) : Sp := fun vs H Q _ => ∃ (F dx : Addr) (n : Net) (c : Cat) (x : Str) (vn vc : V), vs = [.ref F, vn, vc, .str x] ∧ H F = some (.ins C dx []) ∧ FC H n c vn vc ∧ x ∈ c.map (·.1) ∧
  ∀ H', Keep [F] H H' → FlAt H' C F vn vc [(List.replicate n.1.length x, [])] → Q .non H'
def spFLog (C : Addr) : Sp := fun vs H Q _ => ∃ (F : Addr) (vn vc : V) (q : State × Log) (ms : Mom), vs = [.ref F] ∧ FlAt H C F vn vc (q :: ms) ∧ ∀ u, At H q.2 u → Q u H
def spFStore (C : Addr) : Sp := fun vs H Q _ => ∃ (F : Addr) (vn vc pv rv : V) (q : State × Log) (ms : Mom) (st : State) (lg : Log), vs = [.ref F, pv, rv] ∧ FlAt H C F vn vc (q :: ms) ∧ At H st pv ∧ At H lg rv ∧ q.2.length + lg.length ≤ 1000 ∧
  ∀ H', Keep [F] H H' → FlAt H' C F vn vc ((st, q.2 ++ lg) :: q :: ms) → Q .non H'
def spFTried (C : Addr) : Sp := fun vs H Q _ => ∃ (F : Addr) (n : Net) (c : Cat) (vn vc vl : V) (q : State × Log) (ms : Mom) (l : Log) (st' : State), vs = [.ref F, vl] ∧ FlAt H C F vn vc (q :: ms) ∧ FC H n c vn vc ∧ StOk n c q.1 ∧ At H l vl ∧ l.length ≤ 400 ∧ Runs n c q.1 l st' ∧
  ∀ u H', Same H H' → At H' st' u → Q u H'
theorem r_cat {α : Type} [Enc α] {K : PySem.W.Frag} {H : Hp} {a b : List α} {v w : V} {Q : VK} (h1 : At H a v) (h2 : At H b w) (hl : a.length + b.length ≤ 1000) (q : ∀ u H', Same H H' → At H' (a ++ b) u → Q u H') : rCatA K v w H Q := by
  obtain ⟨p1, x1, rfl, r1, e1⟩ := at_list.mp h1
  obtain ⟨p2, x2, rfl, r2, e2⟩ := at_list.mp h2
  refine ⟨p1, p2, x1, x2, rfl, rfl, .inl r1, .inl r2, ?_, fun e => ?_, fun e1' e2' => ?_, fun _ _ p hp => ?_⟩
  · rw [e1.len, e2.len]
    exact Nat.le_trans hl (by decide)
  · have : a = [] := by
      have := e1.len
      rw [e] at this
      exact List.length_eq_zero_iff.mp this.symm
    subst this
    exact q _ _ (.refl _) h2
  · have : b = [] := by
      have := e2.len
      rw [e2'] at this
      exact List.length_eq_zero_iff.mp this.symm
    subst this
    refine q _ _ (.refl _) ?_
    rw [List.append_nil]
    exact h1
  · exact q _ _ (.new hp) (.new hp (e1.append e2))
theorem putF_mom {vn vc mv u : V} : putF (Str.ofString "moment") u (flF vn vc mv) = flF vn vc u := rfl
section
variable {P : Program} {w : World} {K : PySem.W.Frag} {mg : Str → Option Value} {base : Heap} {C : Addr}
theorem ok_finit (T : FCls K C) (G1 : Df P w K mg base CX0 2 "check_release" ["catalog", "value"] spCheckRelease) (G2 : Df P w K mg base CX0 1 "all_at" ["network", "release"] spAllAt) (F : StM K C "__init__" "Fleet.__init__" sFInit) : Mf P w K mg base CX0 3 C "__init__" ["self", "network", "catalog", "start"] (spFInit C) := by
  refine F.ok0 scFInit (fun vs H Q E h => ?_) (fun _ _ _ _ _ _ us hl => match us, hl with | [_, _, _, _], _ => rfl) fun f cdv A outer s H vs Q E hr h => ?_
  · obtain ⟨F, dx, n, c, x, vn, vc, rfl, _⟩ := h
    rfl
  obtain ⟨F, dx, n, c, x, vn, vc, rfl, hF, fc, hx, q⟩ := h
  refine ⟨_, pss_cons (ps_expr (pe_df G1 hr pass0 (pa_cons (pv 2) (pa_cons (pv 3) pa_nil)))) (pss_cons (ps_fld (pv 0) (pv 1) rfl) (pss_cons (ps_fld (pv 0) (pv 2) rfl)
    (pss_one (ps_fld (pv 0) (pe_tup (pa_cons (pe_df G2 hr pass0 (pa_cons (pv 1) (pa_cons (pv 3) pa_nil))) (pa_cons (pe_tup pa_nil) (pa_cons pe_non pa_nil)))) rfl)))), ?_⟩
  walk_at "nf"
  refine ⟨c, vc, x, rfl, fc.cat, fc.co.nd, hx, fun H1 s1 => ⟨F, C, dx, _, rfl, s1 _ _ hF, T.cl, T.net, by simp, F, C, dx, _, rfl, upd_same, T.cl, T.cat, by simp [putF], ?_⟩⟩
  have k2 : Keep [F] H1 (upd (upd H1 F (.ins C dx (putF (Str.ofString "network_held") vn []))) F (.ins C dx (putF (Str.ofString "catalog_held") vc (putF (Str.ofString "network_held") vn [])))) := (Keep.upd (by simp)).trans (.upd (by simp))
  have t2 : TupS H1 (upd (upd H1 F (.ins C dx (putF (Str.ofString "network_held") vn []))) F (.ins C dx (putF (Str.ofString "catalog_held") vc (putF (Str.ofString "network_held") vn [])))) := (TupS.ins (s1 _ _ hF)).trans (.ins upd_same)
  have e2 : upd (upd H1 F (.ins C dx (putF (Str.ofString "network_held") vn []))) F (.ins C dx (putF (Str.ofString "catalog_held") vc (putF (Str.ofString "network_held") vn []))) F = some (.ins C dx [(("network_held" : Str), vn), (("catalog_held" : Str), vc)]) := upd_same
  generalize upd (upd H1 F (.ins C dx (putF (Str.ofString "network_held") vn []))) F (.ins C dx (putF (Str.ofString "catalog_held") vc (putF (Str.ofString "network_held") vn []))) = H2 at k2 t2 e2
  have fc2 := fc.tup (s1.tupS.trans t2)
  refine ⟨n, x, vn, rfl, fc2.net.1, fc2.no, fun u H3 s3 hu => ⟨by decide, fun p hp => ⟨by decide, fun p1 hp1 => ?_⟩⟩⟩
  have s4 : Same H3 (upd (upd H3 p (.tup [])) p1 (.tup [u, .ref p, .non])) := (Same.new hp).snew hp1
  have e4 : upd (upd H3 p (.tup [])) p1 (.tup [u, .ref p, .non]) p1 = some (.tup [u, .ref p, .non]) := upd_same
  have e5 : upd (upd H3 p (.tup [])) p1 (.tup [u, .ref p, .non]) p = some (.tup []) := by rw [upd_ne (updN hp1).1.symm, upd_same]
  generalize upd (upd H3 p (.tup [])) p1 (.tup [u, .ref p, .non]) = H4 at s4 e4 e5
  have e6 := s4 _ _ (s3 _ _ e2)
  have t6 : TupS H4 (upd H4 F (.ins C dx (flF vn vc (.ref p1)))) := .ins e6
  refine ⟨F, C, dx, _, rfl, e6, T.cl, T.mom, by simp, q (upd H4 F (.ins C dx (flF vn vc (.ref p1)))) (fun a o ha e => ?_) ⟨dx, .ref p1, upd_same, p1, u, .ref p, .non, rfl, t6 _ _ e4 rfl, (hu.same s4).tup t6, at_list.mpr ⟨p, [], rfl, .inl (t6 _ _ e5 rfl), .nil⟩, rfl⟩⟩
  rw [upd_ne (fun z => ha (List.mem_singleton.mpr z))]
  exact s4 _ _ (s3 _ _ (k2 a o ha (s1 _ _ e)))
theorem ok_flog (T : FCls K C) (F : StM K C "log" "Fleet.log" sFLog) : Mf P w K mg base CX0 1 C "log" ["self"] (spFLog C) := by
  refine F.ok0 scFLog (fun vs H Q E h => ?_) (fun _ _ _ _ _ _ us hl => match us, hl with | [_], _ => rfl) fun f cdv A outer s H vs Q E hr h => ?_
  · obtain ⟨F, vn, vc, q, ms, rfl, _⟩ := h
    rfl
  obtain ⟨F, vn, vc, qm, ms, rfl, ⟨dx, mv, hF, p, sv, lv, m2, rfl, hp, hs, hl, hm⟩, q⟩ := h
  refine ⟨_, pss_one (ps_ret (eT K (pe_fld (pv 0) rfl) pe_int)), ?_⟩
  walk_at "nf"
  exact ⟨F, C, dx, _, _, rfl, hF, T.cl, T.mom, rfl, p, _, 1, lv, rfl, rfl, .inl (.inl hp), atI_nat (j := 1) rfl, q _ hl⟩
theorem ok_fstore (T : FCls K C) (F : StM K C "store" "Fleet.store" sFStore) : Mf P w K mg base CX0 1 C "store" ["self", "present", "replacements"] (spFStore C) := by
  refine F.ok0 scFStore (fun vs H Q E h => ?_) (fun _ _ _ _ _ _ us hl => match us, hl with | [_, _, _], _ => rfl) fun f cdv A outer s H vs Q E hr h => ?_
  · obtain ⟨F, vn, vc, pv, rv, q, ms, st, lg, rfl, _⟩ := h
    rfl
  obtain ⟨F, vn, vc, pv', rv, qm, ms, st, lg, rfl, ⟨dx, mv, hF, p, sv, lv, m2, rfl, hp, hs, hl, hm⟩, hpv, hrv, hlen, q⟩ := h
  refine ⟨_, pss_one (ps_fld (pv 0) (pe_tup (pa_cons (pv 1) (pa_cons (pe_op (opCatT K) (eT K (pe_fld (pv 0) rfl) pe_int) (pv 2)) (pa_cons (pe_fld (pv 0) rfl) pa_nil)))) rfl), ?_⟩
  walk_at "nf"
  refine ⟨F, C, dx, _, _, rfl, hF, T.cl, T.mom, rfl, p, _, 1, lv, rfl, rfl, .inl (.inl hp), atI_nat (j := 1) rfl, ?_⟩
  refine r_cat hl hrv hlen fun u H1 s1 hu => ⟨F, C, dx, _, _, rfl, s1 _ _ hF, T.cl, T.mom, rfl, by decide, fun p1 hp1 => ?_⟩
  have s2 : Same H1 (upd H1 p1 (.tup [pv', u, .ref p])) := .new hp1
  have e2 : upd H1 p1 (.tup [pv', u, .ref p]) p1 = some (.tup [pv', u, .ref p]) := upd_same
  generalize upd H1 p1 (.tup [pv', u, .ref p]) = H2 at s2 e2
  have s12 := s1.trans s2
  have e6 := s12 _ _ hF
  have t6 : TupS H2 (upd H2 F (.ins C dx (flF vn vc (.ref p1)))) := .ins e6
  have t := s12.tupS.trans t6
  refine ⟨F, C, dx, _, rfl, e6, T.cl, T.mom, by simp [flF], q (upd H2 F (.ins C dx (flF vn vc (.ref p1)))) (fun a o ha e => ?_) ⟨dx, .ref p1, upd_same, p1, pv', u, .ref p, rfl, t6 _ _ e2 rfl, hpv.tup t, (hu.same s2).tup t6, p, sv, lv, m2, rfl, t _ _ hp rfl, hs.tup t, hl.tup t, hm.tup t⟩⟩
  rw [upd_ne (fun z => ha (List.mem_singleton.mpr z))]
  exact s12 _ _ e
theorem ok_ftried (T : FCls K C) (G : Df P w K mg base CX0 7 "run" ["network", "catalog", "state", "schedule"] spRun) (F : StM K C "tried" "Fleet.tried" sFTried) : Mf P w K mg base CX0 8 C "tried" ["self", "schedule"] (spFTried C) := by
  refine F.ok0 scFTried (fun vs H Q E h => ?_) (fun _ _ _ _ _ _ us hl => match us, hl with | [_, _], _ => rfl) fun f cdv A outer s H vs Q E hr h => ?_
  · obtain ⟨F, n, c, vn, vc, vl, q, ms, l, st', rfl, _⟩ := h
    rfl
  obtain ⟨F, n, c, vn, vc, vl, qm, ms, l, st', rfl, ⟨dx, mv, hF, p, sv, lv, m2, rfl, hp, hs, hl, hm⟩, fc, so, hvl, hlen, hrun, q⟩ := h
  refine ⟨_, pss_one (ps_ret (pe_df G hr pass0 (pa_cons (pe_fld (pv 0) rfl) (pa_cons (pe_fld (pv 0) rfl) (pa_cons (eT K (pe_fld (pv 0) rfl) pe_int) (pa_cons (pv 1) pa_nil)))))), ?_⟩
  walk_at "nf"
  exact ⟨F, C, dx, _, _, rfl, hF, T.cl, T.net, rfl, F, C, dx, _, _, rfl, hF, T.cl, T.cat, rfl, F, C, dx, _, _, rfl, hF, T.cl, T.mom, rfl, p, _, 0, sv, rfl, rfl, .inl (.inl hp), atI_nat (j := 0) rfl, n, c, qm.1, st', l, vn, vc, sv, vl, rfl, fc.net, fc.cat, fc.co, fc.no, hs, so, hvl, hlen, hrun, q⟩
end
end G3
end

/-! ## G3Fleet2 -/
section
set_option Elab.async false
set_option linter.all false
set_option maxRecDepth 100000
set_option maxHeartbeats 4000000
local macro_rules | `(tactic| walk_at "nf") => `(tactic| simp only [L2.tRet, L2.tRetN, L2.tAndV, L2.tOrV, L2.tNotV, L2.tCB, L2.tCons, L2.tNil, L2.tVar, L2.tC, L2.tDIn, L2.tDNotIn, L2.tDGet, L2.tOp, L2.tUn, L2.tTest, L2.tB, L2.tIf, L2.tIfS, L2.tAnd, L2.tOr, L2.tNot, L2.tSeq, L2.tAsg, L2.gName, L2.tDrop, L2.tNext, L2.tCall, L2.tTup, L2.tLst, L2.tBM, L2.tBM0, L2.tSl, L2.tPart, L2.tNoPart, L2.sDPut, L2.tFld, L2.sFld, L2.tMeth, L2.tYes, L2.gTup, L2.gCons, L2.gNil, L2.tIsN, L2.tNotN, L2.tPar, L2.tPar3, L2.tDNewK, L2.tDisp, L2.tPairs, L2.tDGet1, StX.tStar, L2.tVeI, L2.tOst, L2.tMkO, L2.tDNewT, L2.tLock, G3.tFrzS, L2.tMake, L2.tDNewT, G3.lcL_fld, G3.lcT_fld, G3.forL_fld, G3.tListVals, G3.lc2T_op, G3.lc2L_call, L2.tGThen, L2.tG0, L2.tPlain, L2.GEnds.at, L2.tGYield, L2.tCallG, L2.tListG, G3.tTupIx, G3.dcT_op, G3.tFrz, G3.dcI_frz, G3.lcI_frz, G3.lcY_frz, G3.lcI_call, G3.lcT_lit, G3.forT_lit, G3.lcL_call, G3.lcL_op, G3.lcL_dget, G3.lcT_call, G3.lcT_op, G3.lcT_dget, G3.forL_call, G3.forL_op, G3.forL_dget, G3.forT_call, G3.forT_op, G3.forT_dget, G3.ex_l1, G3.ex_l2, G3.ex_l3,
  G3.start_eq, G3.cxOf_K, G3.wipe_nil, G3.wipe_cons, List.map_cons, List.map_nil, List.nil_append, List.cons_append, List.append_nil, List.getElem?_cons_zero, List.getElem?_cons_succ, List.set_cons_zero, List.set_cons_succ, List.set_nil, List.length_cons, List.length_nil, List.replicate, Option.some.injEq, G3.ex_eq, Nat.reduceAdd, Nat.reduceSub, Nat.zero_add, List.replicate_succ, List.replicate_zero, true_and, if_true, if_false, Bool.false_eq_true, Nat.add_zero, Int.add_zero])
namespace G3
open PySem PySem.Spec PyProof.Rows L2

theorem scFCheck : FnScope ["self", "service", "release", "found"] ["self", "service", "release"] (defScope sFCheck) := ⟨rfl, rfl, rfl, by decide +kernel, rfl, by decide +kernel, by decide +kernel⟩
theorem scFReplace : FnScope ["self", "service", "release"] ["self", "service", "release"] (defScope sFReplace) := ⟨rfl, rfl, rfl, by decide +kernel, rfl, by decide +kernel, by decide +kernel⟩
theorem scFSched : FnScope ["self", "start", "end"] ["self", "start", "end"] (defScope sFSched) := ⟨rfl, rfl, rfl, by decide +kernel, rfl, by decide +kernel, by decide +kernel⟩
theorem scFUpgrade : FnScope ["self", "end", "present", "schedule"] ["self", "end"] (defScope sFUpgrade) := ⟨rfl, rfl, rfl, by decide +kernel, rfl, by decide +kernel, by decide +kernel⟩
theorem scFUndo : FnScope ["self"] ["self"] (defScope sFUndo) := ⟨rfl, rfl, rfl, by decide +kernel, rfl, by decide +kernel, by decide +kernel⟩
theorem scFTwin : FnScope ["self"] ["self"] (defScope sFTwin) := ⟨rfl, rfl, rfl, by decide +kernel, rfl, by decide +kernel, by decide +kernel⟩
theorem scFCopy : FnScope ["self", "other"] ["self"] (defScope sFCopy) := ⟨rfl, rfl, rfl, by decide +kernel, rfl, by decide +kernel, by decide +kernel⟩
def spFCheck (C CB : Addr) : Sp := fun vs H Q E => ∃ (F : Addr) (n : Net) (c : Cat) (vn vc : V) (q : State × Log) (ms : Mom) (s r : Str), vs = [.ref F, .str s, .str r] ∧ FlAt H C F vn vc (q :: ms) ∧ FC H n c vn vc ∧ StOk n c q.1 ∧ s ∈ n.1 ∧ r ∈ c.map (·.1) ∧
  (Free n c q.1 s r → ∀ H', Same H H' → Q .non H') ∧ (¬ Free n c q.1 s r → ∀ dd H', Same H H' → E (.ref CB) dd H')
def spFReplace (C CB : Addr) : Sp := fun vs H Q E => ∃ (F : Addr) (n : Net) (c : Cat) (vn vc : V) (q : State × Log) (ms : Mom) (s r : Str), vs = [.ref F, .str s, .str r] ∧ FlAt H C F vn vc (q :: ms) ∧ FC H n c vn vc ∧ StOk n c q.1 ∧ s ∈ n.1 ∧ r ∈ c.map (·.1) ∧ q.2.length ≤ 900 ∧
  (∀ st' H', Repl n c q.1 (s, r) st' → Keep [F] H H' → FlAt H' C F vn vc ((st', q.2 ++ [(s, r)]) :: q :: ms) → Q .non H') ∧ (¬ Free n c q.1 s r → ∀ dd H', Same H H' → E (.ref CB) dd H')
def spFSched (C CU : Addr) : Sp := fun vs H Q E => ∃ (F : Addr) (n : Net) (c : Cat) (vn vc : V) (ms : Mom) (x y : Str), vs = [.ref F, .str x, .str y] ∧ FlAt H C F vn vc ms ∧ FC H n c vn vc ∧ x ∈ c.map (·.1) ∧ y ∈ c.map (·.1) ∧
  (∀ p (l : Log) H', Same H H' → At H' l (.ref p) → Runs n c (List.replicate n.1.length x) l (List.replicate n.1.length y) → l.length ≤ 230 → Q (.ref p) H') ∧ ∀ dd H', Same H H' → E (.ref CU) dd H'
def spFUpgrade (C CU CM : Addr) : Sp := fun vs H Q E => ∃ (F : Addr) (n : Net) (c : Cat) (vn vc : V) (q : State × Log) (ms : Mom) (y : Str), vs = [.ref F, .str y] ∧ FlAt H C F vn vc (q :: ms) ∧ FC H n c vn vc ∧ StOk n c q.1 ∧ y ∈ c.map (·.1) ∧ q.2.length ≤ 700 ∧
  (∀ i (l : Log) H', Runs n c q.1 l (List.replicate n.1.length y) → l.length ≤ 230 → Keep [F] H H' → FlAt H' C F vn vc ((List.replicate n.1.length y, q.2 ++ l) :: q :: ms) → Q (.int i) H') ∧ ∀ cl dd H', cl = CU ∨ cl = CM → Same H H' → E (.ref cl) dd H'
def spFUndo (C : Addr) : Sp := fun vs H Q _ => ∃ (F : Addr) (vn vc : V) (q q2 : State × Log) (ms : Mom), vs = [.ref F] ∧ FlAt H C F vn vc (q :: q2 :: ms) ∧ ∀ H', Keep [F] H H' → FlAt H' C F vn vc (q2 :: ms) → Q .non H'
def spFTwin (C : Addr) : Sp := fun vs H Q _ => ∃ (F : Addr) (n : Net) (c : Cat) (vn vc : V) (q : State × Log) (ms : Mom), vs = [.ref F] ∧ FlAt H C F vn vc (q :: ms) ∧ FC H n c vn vc ∧ StOk n c q.1 ∧
  ∀ F2 x H', H F2 = none → Same H H' → FlAt H' C F2 vn vc [(List.replicate n.1.length x, [])] → Q (.ref F2) H'
def spFCopy (C : Addr) : Sp := fun vs H Q _ => ∃ (F : Addr) (n : Net) (c : Cat) (vn vc : V) (q : State × Log) (ms : Mom), vs = [.ref F] ∧ FlAt H C F vn vc (q :: ms) ∧ FC H n c vn vc ∧ StOk n c q.1 ∧
  ∀ F2 H', H F2 = none → Same H H' → FlAt H' C F2 vn vc (q :: ms) → Q (.ref F2) H'
theorem r_slTakeR {K : PySem.W.Frag} {H : Hp} {xs : List Str} {v : V} {k : Nat} {Q : VK} (h : At H xs v) (q : ∀ p H', Same H H' → At H' (xs.take k) (.ref p) → Q (.ref p) H') : rSlA K v none (some (k : Int)) H Q := by
  obtain ⟨a, rfl, ha⟩ := at_strs.mp h
  refine ⟨a, xs.map V.str, rfl, .inl ha, fun ⟨_, e⟩ => ?_, fun _ p hp => ?_⟩
  · rw [HT.sIx_nat, List.length_map] at e
    refine q a H (.refl _) ?_
    rw [List.take_of_length_le (by omega)]
    exact h
  · refine q p _ (.new hp) ?_
    have e : cutV (xs.map V.str) none (some (k : Int)) = (xs.take k).map V.str := by
      unfold cutV
      rw [HT.sIx_nat, HT.sIx_none, List.drop_zero, Nat.sub_zero, List.length_map, List.map_take]
      rcases Nat.le_total k xs.length with h | h
      · rw [Nat.min_eq_left h]
      · rw [Nat.min_eq_right h, List.take_of_length_le (by simp), List.take_of_length_le (by simpa using h)]
    rw [e]
    exact .new hp (al_str.mpr rfl)
theorem Df.alias {P : Program} {w : World} {K : PySem.W.Frag} {mg : Str → Option Value} {base : Heap} {CX : CXT} {k : Nat} {x y : Str} {ps : List Str} {sp : Sp} (G : Df P w K mg base CX k x ps sp) (h : mg y = mg x) : Df P w K mg base CX k y ps sp := by
  obtain ⟨f, fd, h1, h2⟩ := G
  exact ⟨f, fd, h.trans h1, h2⟩
section
variable {P : Program} {w : World} {K : PySem.W.Frag} {mg : Str → Option Value} {base : Heap} {CX : CXT} {k : Nat} {m qual : Str} {C : Addr} {N ps : List Str} {sp : Sp} {st : Stmt}
theorem StM.ok (F : StM K C m qual st) (S : FnScope N ps (defScope st)) (len : ∀ vs H Q E, sp vs H Q E → vs.length = ps.length)
    (hb : ∀ (kV doc pm : Value) (an : Option Addr) (cdv ct : Value) (us : List Value), us.length = ps.length → bindArgs (PySem.W.fnOf m qual (defArgs st) (defBody st) (defScope st) .none kV doc pm an cdv ct) ⟨us, []⟩ = pure (ps.zip us))
    (hbody : ∀ (f : Addr) (cdv : Value) (A : Around) (outer : List Env) (s : Shared) (H : Hp) (vs : List V) (Q : VK) (E : XK), Room k (A.deeper (envOfC qual (defScope st) s.heap.objs.size f cdv)) → sp vs H Q E →
      ∃ t, PSs (cxOf CX P w K mg base N qual (defScope st) f cdv A outer s H E) (defBody st) t ∧ t { nx := fun _ H' => Q .non H', rt := Q } (start N vs) H) : Mf P w K mg base CX (k + 1) C m ps sp := by
  obtain ⟨f, fd, hm, F⟩ := F
  exact ⟨f, fd, hm, F.bindsN hb, F.ok S len fun cdv A outer s H vs Q E hr h => hbody f cdv A outer s H vs Q E hr h⟩
end
theorem r_neEmpty {α : Type} [Enc α] [DecidableEq α] {K : PySem.W.Frag} {H : Hp} {l : List α} {v : V} {e : Addr} {Q : VK} (h : At H l v) (he : H e = some (.tup [])) (ok : ∀ a ∈ l, Enc.ok a) (q : Q (.bl (!decide (l = []))) H) (hd : Enc.dep (List α) ≤ 64 := by decide) : rNeD K v (.ref e) H Q :=
  r_ne (a := l) (a' := []) h (at_list.mpr ⟨e, [], rfl, .inl he, .nil⟩) ok (fun _ h => nomatch h) q hd
section
variable {P : Program} {w : World} {K : PySem.W.Frag} {mg : Str → Option Value} {base : Heap} {C CB CU CM : Addr}
theorem ok_fcheck (T : FCls K C) (TB : ExC K mg "Blocked" "services" CB) (G : Df P w K mg base CX0 3 "blockers" ["network", "catalog", "state", "service", "release"] spInTheWay) (GB : Mf P w K mg base CX0 1 CB "__init__" ["self", "services"] (spExc CB "services")) (F : StM K C "check_replacement" "Fleet.check_replacement" sFCheck) :
    Mf P w K mg base (CX P w) 4 C "check_replacement" ["self", "service", "release"] (spFCheck C CB) := by
  refine F.ok scFCheck (fun vs H Q E h => ?_) (fun _ _ _ _ _ _ us hl => match us, hl with | [_, _, _], _ => rfl) fun f cdv A outer s H vs Q E hr h => ?_
  · obtain ⟨F, n, c, vn, vc, q, ms, s, r, rfl, _⟩ := h
    rfl
  obtain ⟨F, n, c, vn, vc, qm, ms, sv, r, rfl, ⟨dx, mv, hF, p, stv, lv, m2, rfl, hp, hs, hl, hm⟩, fc, so, hsv, hrl, q, qe⟩ := h
  refine ⟨_, pss_cons (ps_set (i := 3) scFCheck.nd rfl (Or.inl rfl) (pe_df G hr pass0 (pa_cons (pe_fld (pv 0) rfl) (pa_cons (pe_fld (pv 0) rfl) (pa_cons (eT K (pe_fld (pv 0) rfl) pe_int) (pa_cons (pv 1) (pa_cons (pv 2) pa_nil)))))))
    (pss_one (ps_if (pt_cmpR (opNeD K hr.units) (pv 3) (pe_tup pa_nil) (nomark _)) (pss_one (ps_raise rfl (takes_of rfl rfl rfl rfl) (pmk_ex TB.oex GB hr TB.at_ (pa_cons (pv 3) pa_nil)))) pss_nil)), ?_⟩
  walk_at "nf"
  refine ⟨F, C, dx, _, _, rfl, hF, T.cl, T.net, rfl, F, C, dx, _, _, rfl, hF, T.cl, T.cat, rfl, F, C, dx, _, _, rfl, hF, T.cl, T.mom, rfl, p, _, 0, stv, rfl, rfl, .inl (.inl hp), atI_nat (j := 0) rfl, n, c, qm.1, sv, r, vn, vc, stv, rfl, fc.net.1, fc.cat, fc.co, fc.no, hs, so, hsv, hrl, fun pl l H1 s1 hll hok hiff => ⟨by decide, fun e he => ?_⟩⟩
  have s2 : Same H1 (upd H1 e (.tup [])) := .new he
  refine r_neEmpty (hll.same s2) upd_same hok ⟨_, rfl, ?_⟩
  by_cases h : l = []
  · exact iteF' (by rw [decide_eq_true h]; rfl) (q (hiff.mp h) _ (s1.trans s2))
  · exact iteT' (by rw [decide_eq_false h]; rfl) ⟨by decide, r_exc fun dd H4 s5 => qe (fun hf => h (hiff.mpr hf)) dd H4 ((s1.trans s2).trans s5)⟩
theorem ok_freplace (T : FCls K C) (G1 : Mf P w K mg base (CX P w) 4 C "check_replacement" ["self", "service", "release"] (spFCheck C CB)) (G2 : Df P w K mg base CX0 1 "changed" ["network", "state", "service", "release"] spChanged) (G3 : Mf P w K mg base CX0 1 C "store" ["self", "present", "replacements"] (spFStore C)) (F : StM K C "replace" "Fleet.replace" sFReplace) :
    Mf P w K mg base (CX P w) 5 C "replace" ["self", "service", "release"] (spFReplace C CB) := by
  refine F.ok scFReplace (fun vs H Q E h => ?_) (fun _ _ _ _ _ _ us hl => match us, hl with | [_, _, _], _ => rfl) fun f cdv A outer s H vs Q E hr h => ?_
  · obtain ⟨F, n, c, vn, vc, q, ms, s, r, rfl, _⟩ := h
    rfl
  obtain ⟨F, n, c, vn, vc, qm, ms, sv, r, rfl, hfl, fc, so, hsv, hrl, hlen, q, qe⟩ := h
  refine ⟨_, pss_cons (ps_expr (pe_mf G1 T.cl hr (passes_call (takes_of rfl rfl rfl rfl) fun _ _ _ _ h => h) (pv 0) (pa_cons (pv 1) (pa_cons (pv 2) pa_nil)) (by decide)))
    (pss_one (ps_expr (pe_mf G3 T.cl hr pass0 (pv 0) (pa_cons (pe_df G2 hr pass0 (pa_cons (pe_fld (pv 0) rfl) (pa_cons (eT K (pe_fld (pv 0) rfl) pe_int) (pa_cons (pv 1) (pa_cons (pv 2) pa_nil))))) (pa_cons (pe_tup (pa_cons (pe_tup (pa_cons (pv 1) (pa_cons (pv 2) pa_nil))) pa_nil)) pa_nil)) (by decide)))), ?_⟩
  walk_at "nf"
  obtain ⟨dx, mv, hF, hmm⟩ := id hfl
  refine ⟨F, dx, _, rfl, hF, rfl, F, n, c, vn, vc, qm, ms, sv, r, rfl, hfl, fc, so, hsv, hrl, fun hfree H1 s1 => ?_, qe⟩
  obtain ⟨dx1, mv1, hF1, p, stv, lv, m2, rfl, hp, hs, hl, hm⟩ := hfl.same s1
  have fc1 := fc.same s1
  obtain ⟨i, hi⟩ := List.mem_iff_getElem?.mp hsv
  refine ⟨F, dx1, _, rfl, hF1, rfl, F, C, dx1, _, _, rfl, hF1, T.cl, T.net, rfl, F, C, dx1, _, _, rfl, hF1, T.cl, T.mom, rfl, p, _, 0, stv, rfl, rfl, .inl (.inl hp), atI_nat (j := 0) rfl, n, qm.1, i, sv, r, vn, stv, rfl, fc1.net, fc1.no, hs, so.len, hi, fun pc H2 s2 hst2 => ⟨by decide, fun e1 he1 => ⟨by decide, fun e2 he2 => ?_⟩⟩⟩
  have s3 : Same H2 (upd (upd H2 e1 (.tup [.str sv, .str r])) e2 (.tup [.ref e1])) := (Same.new he1).snew he2
  have hlog : At (upd (upd H2 e1 (.tup [.str sv, .str r])) e2 (.tup [.ref e1])) [(sv, r)] (.ref e2) := .new he2 (.cons (at_new2 he1 (at_str.mpr rfl) (at_str.mpr rfl)) .nil)
  generalize upd (upd H2 e1 (.tup [.str sv, .str r])) e2 (.tup [.ref e1]) = H3 at s3 hlog
  have s13 := s1.trans (s2.trans s3)
  refine ⟨F, vn, vc, .ref pc, .ref e2, qm, ms, qm.1.set i r, [(sv, r)], rfl, hfl.same s13, hst2.same s3, hlog, by rw [List.length_singleton]; omega, fun H4 k4 hfl4 => q _ H4 ⟨⟨i, hi, rfl⟩, hrl, hfree⟩ ((Keep.same s13).trans k4) hfl4⟩
theorem ok_fsched (T : FCls K C) (G : Df P w K mg base (CX P w) 117 "upgrade_upgrades" ["network", "catalog", "start", "end"] (spUpgrade CU)) (F : StM K C "schedule_to" "Fleet.schedule_to" sFSched) : Mf P w K mg base (CX P w) 118 C "schedule_to" ["self", "start", "end"] (spFSched C CU) := by
  refine F.ok scFSched (fun vs H Q E h => ?_) (fun _ _ _ _ _ _ us hl => match us, hl with | [_, _, _], _ => rfl) fun f cdv A outer s H vs Q E hr h => ?_
  · obtain ⟨F, n, c, vn, vc, ms, x, y, rfl, _⟩ := h
    rfl
  obtain ⟨F, n, c, vn, vc, ms, x, y, rfl, ⟨dx, mv, hF, hm⟩, fc, hx, hy, q, qe⟩ := h
  refine ⟨_, pss_one (ps_ret (pe_df G hr (passes_call (takes_of rfl rfl rfl rfl) fun _ _ _ _ h => h) (pa_cons (pe_fld (pv 0) rfl) (pa_cons (pe_fld (pv 0) rfl) (pa_cons (pv 1) (pa_cons (pv 2) pa_nil)))))), ?_⟩
  walk_at "nf"
  exact ⟨F, C, dx, _, _, rfl, hF, T.cl, T.net, rfl, F, C, dx, _, _, rfl, hF, T.cl, T.cat, rfl, n, c, x, y, vn, vc, rfl, fc.net.1, fc.no, fc.cat, fc.co, hx, hy, q, qe⟩
theorem ok_fundo (T : FCls K C) (F : StM K C "undo" "Fleet.undo" sFUndo) : Mf P w K mg base CX0 1 C "undo" ["self"] (spFUndo C) := by
  refine F.ok0 scFUndo (fun vs H Q E h => ?_) (fun _ _ _ _ _ _ us hl => match us, hl with | [_], _ => rfl) fun f cdv A outer s H vs Q E hr h => ?_
  · obtain ⟨F, vn, vc, q, q2, ms, rfl, _⟩ := h
    rfl
  obtain ⟨F, vn, vc, qm, q2, ms, rfl, ⟨dx, mv, hF, p, sv, lv, m2, rfl, hp, hs, hl, hm⟩, q⟩ := h
  refine ⟨_, pss_cons (ps_if (pt_cmpR op_isN (eT K (pe_fld (pv 0) rfl) pe_int) pe_non (nomark _)) pss_never pss_nil) (pss_one (ps_fld (pv 0) (eT K (pe_fld (pv 0) rfl) pe_int) rfl)), ?_⟩
  walk_at "nf"
  obtain ⟨p2, sv2, lv2, m3, rfl, hp2, hs2, hl2, hm2⟩ := id hm
  have t6 : TupS H (upd H F (.ins C dx (flF vn vc (.ref p2)))) := .ins hF
  exact ⟨F, C, dx, _, _, rfl, hF, T.cl, T.mom, rfl, p, _, 2, .ref p2, rfl, rfl, .inl (.inl hp), atI_nat (j := 2) rfl, _, rfl, iteF' rfl ⟨F, C, dx, _, _, rfl, hF, T.cl, T.mom, rfl, p, _, 2, .ref p2, rfl, rfl, .inl (.inl hp), atI_nat (j := 2) rfl, F, C, dx, _, rfl, hF, T.cl, T.mom, by simp [flF], q (upd H F (.ins C dx (flF vn vc (.ref p2)))) (.upd (by simp)) ⟨dx, .ref p2, upd_same, hm.tup t6⟩⟩⟩
theorem ok_ftwin (T : FCls K C) (M : MkC K C) (hC : mg "Fleet" = some (.ref C)) (G : Mf P w K mg base CX0 3 C "__init__" ["self", "network", "catalog", "start"] (spFInit C)) (F : StM K C "twin" "Fleet.twin" sFTwin) : Mf P w K mg base CX0 5 C "twin" ["self"] (spFTwin C) := by
  refine F.ok0 scFTwin (fun vs H Q E h => ?_) (fun _ _ _ _ _ _ us hl => match us, hl with | [_], _ => rfl) fun f cdv A outer s H vs Q E hr h => ?_
  · obtain ⟨F, n, c, vn, vc, q, ms, rfl, _⟩ := h
    rfl
  obtain ⟨F, n, c, vn, vc, qm, ms, rfl, ⟨dx, mv, hF, p, sv, lv, m2, rfl, hp, hs, hl, hm⟩, fc, so, q⟩ := h
  refine ⟨_, pss_one (ps_ret (pe_mk M G hr hC pass0 (pa_cons (pe_fld (pv 0) rfl) (pa_cons (pe_fld (pv 0) rfl) (pa_cons (eT K (eT K (pe_fld (pv 0) rfl) pe_int) pe_int) pa_nil))))), ?_⟩
  walk_at "nf"
  have hne : ∃ x, qm.1[0]? = some x := by
    have h1 := so.len
    cases e : qm.1 with
    | nil => rw [e] at h1; exact absurd (List.length_eq_zero_iff.mp h1.symm) fc.no.ne
    | cons a b => exact ⟨a, rfl⟩
  obtain ⟨x, hx⟩ := hne
  refine ⟨F, C, dx, _, _, rfl, hF, T.cl, T.net, rfl, F, C, dx, _, _, rfl, hF, T.cl, T.cat, rfl, F, C, dx, _, _, rfl, hF, T.cl, T.mom, rfl, p, _, 0, sv, rfl, rfl, .inl (.inl hp), atI_nat (j := 0) rfl, r_ixT (n := 0) hs hx fun w hw => ?_⟩
  rw [at_str.mp hw]
  intro F2 d2 hF2 hd2 hne2
  have s2 : Same H (upd (upd H d2 (.own F2)) F2 (.ins C d2 [])) := (Same.new hd2).trans (.new (by rw [upd_ne hne2.symm]; exact hF2))
  refine ⟨F2, d2, n, c, x, vn, vc, rfl, upd_same, fc.same s2, so.sub x (List.mem_of_getElem? hx), fun H' k hfl => ⟨rfl, q F2 x H' hF2 (fun a o e => k a o (fun z => ne_of_none e hF2 (List.mem_singleton.mp z)) (s2 _ _ e)) hfl⟩⟩
theorem ok_fcopy (T : FCls K C) (G : Mf P w K mg base CX0 5 C "twin" ["self"] (spFTwin C)) (F : StM K C "copy" "Fleet.copy" sFCopy) : Mf P w K mg base CX0 6 C "copy" ["self"] (spFCopy C) := by
  refine F.ok0 scFCopy (fun vs H Q E h => ?_) (fun _ _ _ _ _ _ us hl => match us, hl with | [_], _ => rfl) fun f cdv A outer s H vs Q E hr h => ?_
  · obtain ⟨F, n, c, vn, vc, q, ms, rfl, _⟩ := h
    rfl
  obtain ⟨F, n, c, vn, vc, qm, ms, rfl, hfl, fc, so, q⟩ := h
  refine ⟨_, pss_cons (ps_set (i := 1) scFCopy.nd rfl (Or.inl rfl) (pe_mf0 G T.cl hr pass0 (pv 0) (by decide))) (pss_cons (ps_fld (pv 1) (pe_fld (pv 0) rfl) rfl) (pss_one (ps_ret (pv 1)))), ?_⟩
  walk_at "nf"
  obtain ⟨dx, mv, hF, hm⟩ := id hfl
  refine ⟨F, dx, _, rfl, hF, rfl, F, n, c, vn, vc, qm, ms, rfl, hfl, fc, so, fun F2 x H1 hF2 s1 hfl2 => ?_⟩
  obtain ⟨d2, mv2, hF2', _⟩ := hfl2
  have e1 := s1 _ _ hF
  have t6 : TupS H1 (upd H1 F2 (.ins C d2 (flF vn vc mv))) := .ins hF2'
  exact ⟨F, C, dx, _, _, rfl, e1, T.cl, T.mom, rfl, F2, C, d2, _, rfl, hF2', T.cl, T.mom, by simp [flF], q F2 (upd H1 F2 (.ins C d2 (flF vn vc mv))) hF2 (s1.put hF2) ⟨d2, mv, upd_same, (hm.tup s1.tupS).tup t6⟩⟩
theorem ok_fupgrade (T0 : Bt mg) (T : FCls K C) (TM : ExC K mg "Mixed" "present" CM) (G1 : Df P w K mg base CX0 2 "check_release" ["catalog", "value"] spCheckRelease) (GM : Mf P w K mg base CX0 1 CM "__init__" ["self", "present"] (spExc CM "present")) (G2 : Mf P w K mg base (CX P w) 118 C "schedule_to" ["self", "start", "end"] (spFSched C CU))
    (G3 : Df P w K mg base CX0 1 "all_at" ["network", "release"] spAllAt) (G4 : Mf P w K mg base CX0 1 C "store" ["self", "present", "replacements"] (spFStore C)) (F : StM K C "upgrade" "Fleet.upgrade" sFUpgrade) : Mf P w K mg base (CX P w) 119 C "upgrade" ["self", "end"] (spFUpgrade C CU CM) := by
  refine F.ok scFUpgrade (fun vs H Q E h => ?_) (fun _ _ _ _ _ _ us hl => match us, hl with | [_, _], _ => rfl) fun f cdv A outer s H vs Q E hr h => ?_
  · obtain ⟨F, n, c, vn, vc, q, ms, y, rfl, _⟩ := h
    rfl
  obtain ⟨F, n, c, vn, vc, qm, ms, y, rfl, hfl, fc, so, hy, hlen, q, qe⟩ := h
  refine ⟨_, pss_cons (ps_expr (pe_df G1 hr pass0 (pa_cons (pe_fld (pv 0) rfl) (pa_cons (pv 1) pa_nil)))) (pss_cons (ps_set (i := 2) scFUpgrade.nd rfl (Or.inl rfl) (eT K (pe_fld (pv 0) rfl) pe_int))
    (pss_cons (ps_if (pt_cmpR (opNeD K hr.units) (pv 2) (pe_op (op_repA K) (pe_slice (slT K) (pv 2) po_none (po_some pe_int)) (eLen K T0 (pv 2))) (nomark _)) (pss_one (ps_raise rfl (takes_of rfl rfl rfl rfl) (pmk_ex TM.oex GM hr TM.at_ (pa_cons (pv 2) pa_nil)))) pss_nil)
    (pss_cons (ps_set (i := 3) scFUpgrade.nd rfl (Or.inl rfl) (pe_mf G2 T.cl hr (passes_call (takes_of rfl rfl rfl rfl) fun _ _ _ _ h => h) (pv 0) (pa_cons (eT K (pv 2) pe_int) (pa_cons (pv 1) pa_nil)) (by decide)))
    (pss_cons (ps_expr (pe_mf G4 T.cl hr pass0 (pv 0) (pa_cons (pe_df G3 hr pass0 (pa_cons (pe_fld (pv 0) rfl) (pa_cons (pv 1) pa_nil))) (pa_cons (pv 3) pa_nil)) (by decide)))
    (pss_one (ps_ret (eLen K T0 (pv 3)))))))), ?_⟩
  walk_at "nf"
  obtain ⟨dx, mv, hF, p, sv, lv, m2, rfl, hp, hs, hl, hm⟩ := id hfl
  obtain ⟨x, xr, hst⟩ : ∃ x xr, qm.1 = x :: xr := by
    have h1 := so.len
    cases e : qm.1 with
    | nil => rw [e] at h1; exact absurd (List.length_eq_zero_iff.mp h1.symm) fc.no.ne
    | cons a b => exact ⟨a, b, rfl⟩
  have hxc : x ∈ c.map (·.1) := so.sub x (by rw [hst]; simp)
  have hl1 : 1 ≤ qm.1.length := by rw [hst]; simp
  have hl2 : qm.1.length ≤ 1000 := by rw [so.len]; exact Nat.le_trans fc.no.len (by decide)
  have sok : ∀ r ∈ qm.1, Enc.ok r := fun r hr => names_ok fc.co (so.sub r hr)
  refine ⟨F, C, dx, _, _, rfl, hF, T.cl, T.cat, rfl, c, vc, y, rfl, fc.cat, fc.co.nd, hy, fun H1 s1 => ⟨F, C, dx, _, _, rfl, s1 _ _ hF, T.cl, T.mom, rfl, p, _, 0, sv, rfl, rfl, .inl (.inl (s1 _ _ hp)), atI_nat (j := 0) rfl, ((1 : Nat) : Int), rfl, r_slTakeR (k := 1) (hs.same s1) fun p1 H2 s2 h2 => r_lenT' (hs.same (s1.trans s2)) (r_rep (r := x) (by rw [hst] at h2; exact h2) hl1 hl2 fun u H3 s3 hu => ?_)⟩⟩
  have s13 := s1.trans (s2.trans s3)
  refine r_ne (a := qm.1) (a' := List.replicate qm.1.length x) (hs.same s13) hu sok (fun a ha => by rw [(List.mem_replicate.mp ha).2]; exact names_ok fc.co hxc) ⟨_, rfl, ?_⟩
  by_cases h : qm.1 = List.replicate qm.1.length x
  · refine iteF' (by rw [decide_eq_true h]; rfl) ⟨F, dx, _, rfl, s13 _ _ hF, rfl, r_ixT (n := 0) (hs.same s13) (by rw [hst]; rfl) fun w hw => ?_⟩
    rw [at_str.mp hw]
    have hrep : qm.1 = List.replicate n.1.length x := by rw [so.len] at h; exact h
    refine ⟨F, n, c, vn, vc, qm :: ms, x, y, rfl, hfl.same s13, fc.same s13, hxc, hy, fun pl l H4 s4 hll hrun hlen2 => ?_, fun dd H' s' => qe CU dd H' (.inl rfl) (s13.trans s')⟩
    have s14 := s13.trans s4
    refine ⟨F, dx, _, rfl, s14 _ _ hF, rfl, F, C, dx, _, _, rfl, s14 _ _ hF, T.cl, T.net, rfl, n, y, vn, rfl, (fc.same s14).net.1, fc.no, fun u2 H5 s5 hu2 => ?_⟩
    have s15 := s14.trans s5
    refine ⟨F, vn, vc, u2, .ref pl, qm, ms, List.replicate n.1.length y, l, rfl, hfl.same s15, hu2, hll.same s5, by omega, fun H6 k6 hfl6 => ?_⟩
    have t6 : TupS H5 H6 := k6.tupS fun a ha o ho => by
      rw [List.mem_singleton.mp ha, s15 _ _ hF] at ho; cases ho; rfl
    exact r_lenT' ((hll.same s5).tup t6) (q _ l H6 (by rw [hrep]; exact hrun) hlen2 ((Keep.same s15).trans k6) hfl6)
  · refine iteT' (by rw [decide_eq_false h]; rfl) ⟨by decide, r_exc fun dd H4 s5 => qe CM dd H4 (.inr rfl) (s13.trans s5)⟩
end
end G3
end

/-! ## G3FProp -/
section
set_option Elab.async false
set_option linter.all false
set_option maxRecDepth 100000
set_option maxHeartbeats 4000000
local macro_rules | `(tactic| walk_at "nf") => `(tactic| simp only [L2.tRet, L2.tRetN, L2.tAndV, L2.tOrV, L2.tNotV, L2.tCB, L2.tCons, L2.tNil, L2.tVar, L2.tC, L2.tDIn, L2.tDNotIn, L2.tDGet, L2.tOp, L2.tUn, L2.tTest, L2.tB, L2.tIf, L2.tIfS, L2.tAnd, L2.tOr, L2.tNot, L2.tSeq, L2.tAsg, L2.gName, L2.tDrop, L2.tNext, L2.tCall, L2.tTup, L2.tLst, L2.tBM, L2.tBM0, L2.tSl, L2.tPart, L2.tNoPart, L2.sDPut, L2.tFld, L2.sFld, L2.tMeth, L2.tYes, L2.gTup, L2.gCons, L2.gNil, L2.tIsN, L2.tNotN, L2.tPar, L2.tPar3, L2.tDNewK, L2.tDisp, L2.tPairs, L2.tDGet1, StX.tStar, L2.tProp, L2.tVeI, L2.tOst, L2.tMkO, L2.tDNewT, L2.tLock, G3.tFrzS, L2.tMake, L2.tDNewT, G3.lcL_fld, G3.lcT_fld, G3.forL_fld, G3.tListVals, G3.lc2T_op, G3.lc2L_call, L2.tGThen, L2.tG0, L2.tPlain, L2.GEnds.at, L2.tGYield, L2.tCallG, L2.tListG, G3.tTupIx, G3.dcT_op, G3.tFrz, G3.dcI_frz, G3.lcI_frz, G3.lcY_frz, G3.lcI_call, G3.lcT_lit, G3.forT_lit, G3.lcL_call, G3.lcL_op, G3.lcL_dget, G3.lcT_call, G3.lcT_op, G3.lcT_dget, G3.forL_call, G3.forL_op, G3.forL_dget, G3.forT_call, G3.forT_op, G3.forT_dget, G3.ex_l1, G3.ex_l2, G3.ex_l3,
  G3.start_eq, G3.cxOf_K, G3.wipe_nil, G3.wipe_cons, List.map_cons, List.map_nil, List.nil_append, List.cons_append, List.append_nil, List.getElem?_cons_zero, List.getElem?_cons_succ, List.set_cons_zero, List.set_cons_succ, List.set_nil, List.length_cons, List.length_nil, List.replicate, Option.some.injEq, G3.ex_eq, Nat.reduceAdd, Nat.reduceSub, Nat.zero_add, List.replicate_succ, List.replicate_zero, true_and, if_true, if_false, Bool.false_eq_true, Nat.add_zero, Int.add_zero])
namespace G3
open PySem PySem.Spec PyProof.Rows L2

/-- the property f of the class at C stands as its text has it -/
def StP (K : PySem.W.Frag) (C : Addr) (f qual : Str) (st : Stmt) : Prop := ∃ p g fd, PropOf K C f p g ∧ FunD K f qual (defArgs st) (defBody st) (defScope st) [] [] g fd
section
variable (P : Program) (w : World) (K : PySem.W.Frag) (mg : Str → Option Value) (base : Heap)
def Pf (CX : CXT) (k : Nat) (C : Addr) (f : Str) (ps : List Str) (sp : Sp) : Prop :=
  ∃ p g fd, PropOf K C f p g ∧ Binds K fd ps [] ∧ FnOk P w K mg base CX k g fd ps sp
end
section
variable {P : Program} {w : World} {K : PySem.W.Frag} {mg : Str → Option Value} {base : Heap} {CX : CXT} {k : Nat} {m qual : Str} {C : Addr} {N ps : List Str} {sp : Sp} {st : Stmt}
theorem StP.ok0 (F : StP K C m qual st) (S : FnScope N ps (defScope st)) (len : ∀ vs H Q E, sp vs H Q E → vs.length = ps.length)
    (hb : ∀ (kV doc pm : Value) (an : Option Addr) (cdv ct : Value) (us : List Value), us.length = ps.length → bindArgs (PySem.W.fnOf m qual (defArgs st) (defBody st) (defScope st) .none kV doc pm an cdv ct) ⟨us, []⟩ = pure (ps.zip us))
    (hbody : ∀ (f : Addr) (cdv : Value) (A : Around) (outer : List Env) (s : Shared) (H : Hp) (vs : List V) (Q : VK) (E : XK), Room k (A.deeper (envOfC qual (defScope st) s.heap.objs.size f cdv)) → sp vs H Q E →
      ∃ t, PSs (cxOf CX0 P w K mg base N qual (defScope st) f cdv A outer s H E).nox (defBody st) t ∧ t { nx := fun _ H' => Q .non H', rt := Q } (start N vs) H) : Pf P w K mg base CX0 (k + 1) C m ps sp := by
  obtain ⟨p, f, fd, hm, F⟩ := F
  refine ⟨p, f, fd, hm, F.bindsN hb, F.ok S len fun cdv A outer s H vs Q E hr h => ?_⟩
  obtain ⟨t, h1, h2⟩ := hbody f cdv A outer s H vs Q E hr h
  exact ⟨t, h1.nox, h2⟩
theorem pe_pf {X : Cx} {j k : Nat} {E : XK} {o : Expr} {ta : TE} {pos : Pos} (G : Pf X.prog X.w X.K X.mg X.base CX0 j C m ps sp) (c : Cls X.K C) (hr : Room k X.A) (he : PE X o ta) (hj : j + 1 ≤ k := by decide) (hab : attributeBase o m X.env (eval o X.env) = eval o X.env := by rfl) : PE X (.Attribute o m pos) (tProp C sp [] E ta) := by
  obtain ⟨p, g, fd, hp, hb, F⟩ := G
  exact pe_prop he c hp F (hr.mono hj) hb .nil pass0 hab
end
abbrev sFState : Stmt := fm 6
abbrev sFMade : Stmt := fm 7
theorem scFState : FnScope ["self"] ["self"] (defScope sFState) := ⟨rfl, rfl, rfl, by decide +kernel, rfl, by decide +kernel, by decide +kernel⟩
theorem scFMade : FnScope ["self"] ["self"] (defScope sFMade) := ⟨rfl, rfl, rfl, by decide +kernel, rfl, by decide +kernel, by decide +kernel⟩
def spFState (C : Addr) : Sp := fun vs H Q _ => ∃ (F : Addr) (vn vc : V) (q : State × Log) (ms : Mom), vs = [.ref F] ∧ FlAt H C F vn vc (q :: ms) ∧ ∀ u, At H q.1 u → Q u H
def spFMade (C : Addr) : Sp := fun vs H Q _ => ∃ (F : Addr) (vn vc : V) (q : State × Log) (ms : Mom), vs = [.ref F] ∧ FlAt H C F vn vc (q :: ms) ∧ Q (.int q.2.length) H
section
variable {P : Program} {w : World} {K : PySem.W.Frag} {mg : Str → Option Value} {base : Heap} {C : Addr}
theorem ok_fstate (T : FCls K C) (F : StP K C "state" "Fleet.state" sFState) : Pf P w K mg base CX0 1 C "state" ["self"] (spFState C) := by
  refine F.ok0 scFState (fun vs H Q E h => ?_) (fun _ _ _ _ _ _ us hl => match us, hl with | [_], _ => rfl) fun f cdv A outer s H vs Q E hr h => ?_
  · obtain ⟨F, vn, vc, q, ms, rfl, _⟩ := h
    rfl
  obtain ⟨F, vn, vc, qm, ms, rfl, ⟨dx, mv, hF, p, sv, lv, m2, rfl, hp, hs, hl, hm⟩, q⟩ := h
  refine ⟨_, pss_one (ps_ret (eT K (pe_fld (pv 0) rfl) pe_int)), ?_⟩
  walk_at "nf"
  exact ⟨F, C, dx, _, _, rfl, hF, T.cl, T.mom, rfl, p, _, 0, sv, rfl, rfl, .inl (.inl hp), atI_nat (j := 0) rfl, q _ hs⟩
theorem ok_fmade (T0 : Bt mg) (T : FCls K C) (F : StP K C "made" "Fleet.made" sFMade) : Pf P w K mg base CX0 1 C "made" ["self"] (spFMade C) := by
  refine F.ok0 scFMade (fun vs H Q E h => ?_) (fun _ _ _ _ _ _ us hl => match us, hl with | [_], _ => rfl) fun f cdv A outer s H vs Q E hr h => ?_
  · obtain ⟨F, vn, vc, q, ms, rfl, _⟩ := h
    rfl
  obtain ⟨F, vn, vc, qm, ms, rfl, ⟨dx, mv, hF, p, sv, lv, m2, rfl, hp, hs, hl, hm⟩, q⟩ := h
  refine ⟨_, pss_one (ps_ret (eLen K T0 (eT K (pe_fld (pv 0) rfl) pe_int))), ?_⟩
  walk_at "nf"
  exact ⟨F, C, dx, _, _, rfl, hF, T.cl, T.mom, rfl, p, _, 1, lv, rfl, rfl, .inl (.inl hp), atI_nat (j := 1) rfl, r_lenT' hl q⟩
end
end G3
end

/-! ## G3FEq -/
section
set_option Elab.async false
set_option linter.all false
set_option maxRecDepth 100000
set_option maxHeartbeats 4000000
local macro_rules | `(tactic| walk_at "nf") => `(tactic| simp only [L2.tRet, L2.tRetN, L2.tAndV, L2.tOrV, L2.tNotV, L2.tCB, L2.tCons, L2.tNil, L2.tVar, L2.tC, L2.tDIn, L2.tDNotIn, L2.tDGet, L2.tOp, L2.tUn, L2.tTest, L2.tB, L2.tIf, L2.tIfS, L2.tAnd, L2.tOr, L2.tNot, L2.tSeq, L2.tAsg, L2.gName, L2.tDrop, L2.tNext, L2.tCall, L2.tTup, L2.tLst, L2.tBM, L2.tBM0, L2.tSl, L2.tPart, L2.tNoPart, L2.sDPut, L2.tFld, L2.sFld, L2.tMeth, L2.tYes, L2.gTup, L2.gCons, L2.gNil, L2.tIsN, L2.tNotN, L2.tPar, L2.tPar3, L2.tDNewK, L2.tDisp, L2.tPairs, L2.tDGet1, StX.tStar, L2.tProp, L2.tVeI, L2.tOst, L2.tMkO, L2.tDNewT, L2.tLock, G3.tFrzS, L2.tMake, L2.tDNewT, G3.lcL_fld, G3.lcT_fld, G3.forL_fld, G3.tListVals, G3.lc2T_op, G3.lc2L_call, L2.tGThen, L2.tG0, L2.tPlain, L2.GEnds.at, L2.tGYield, L2.tCallG, L2.tListG, G3.tTupIx, G3.dcT_op, G3.tFrz, G3.dcI_frz, G3.lcI_frz, G3.lcY_frz, G3.lcI_call, G3.lcT_lit, G3.forT_lit, G3.lcL_call, G3.lcL_op, G3.lcL_dget, G3.lcT_call, G3.lcT_op, G3.lcT_dget, G3.forL_call, G3.forL_op, G3.forL_dget, G3.forT_call, G3.forT_op, G3.forT_dget, G3.ex_l1, G3.ex_l2, G3.ex_l3,
  G3.start_eq, G3.cxOf_K, G3.wipe_nil, G3.wipe_cons, List.map_cons, List.map_nil, List.nil_append, List.cons_append, List.append_nil, List.getElem?_cons_zero, List.getElem?_cons_succ, List.set_cons_zero, List.set_cons_succ, List.set_nil, List.length_cons, List.length_nil, List.replicate, Option.some.injEq, G3.ex_eq, Nat.reduceAdd, Nat.reduceSub, Nat.zero_add, List.replicate_succ, List.replicate_zero, true_and, if_true, if_false, Bool.false_eq_true, Nat.add_zero, Int.add_zero])
namespace G3
open PySem PySem.Spec PyProof.Rows L2

theorem scFEq : FnScope ["self", "other"] ["self", "other"] (defScope sFEq) := ⟨rfl, rfl, rfl, by decide +kernel, rfl, by decide +kernel, by decide +kernel⟩
/-- isinstance of such an instance -/
structure FIsi (K : PySem.W.Frag) (C : Addr) : Prop where
  ty : ∀ (H : Hp) (a dx : Addr) (fs : List (Str × V)), H a = some (.ins C dx fs) → TyX K H (.ref a) (.ref C)
  kit : PySem.W.kitOne K (.ref C) (.ref C) = some true
theorem eIsiC {K : PySem.W.Frag} {X : Cx} {a : Expr} {ta : TE} {p q r : Pos} {n : Str} {C : Addr} (T : Bt X.mg) (ha : PE X a ta) (hm : X.mg n = some (.ref C)) (e : X.K = K := by rfl) (hg : Gl X "isinstance" := by rfl) (hg2 : Gl X n := by rfl) (hs : starEach [a, .Name n r] X.env = (false, eval a X.env) :: starEach [.Name n r] X.env := by rfl)
    (hs2 : starEach [.Name n r] X.env = (false, eval (.Name n r) X.env) :: starEach [] X.env := by rfl) (hd : (n == ("__debug__" : Str)) = false := by decide) (hpl : (backTo q (starEach [.Name n r] X.env)).any (·.1) = false := by rfl) :
    PE X (.Call (.Name "isinstance" p) [a, .Name n r] [] q) (fun σ H Q => ta σ H fun x H1 => rIsi K [x, .ref C] H1 Q) :=
  pe_callB (crIsi K e) hg T.isinstance boot_isinstance (pa_cons ha (pa_cons (pe_glob (v := .ref C) hg2 hm rfl hd) pa_nil hs2) hs) (by decide) (by decide) hs hpl
/-- two fleets in the same situation -/
def FEqv (C : Addr) (a b : Addr) (H : Hp) : Prop := ∃ (n : Net) (c : Cat) (vn vc : V) (q : State × Log) (ms ms2 : Mom), FlAt H C a vn vc (q :: ms) ∧ FlAt H C b vn vc (q :: ms2) ∧ FC H n c vn vc ∧ StOk n c q.1 ∧ ∀ p ∈ q.2, p.1 ∈ n.1 ∧ p.2 ∈ c.map (·.1)
theorem r_slMom {K : PySem.W.Frag} {H : Hp} {p : Addr} {a b c : V} {Q : VK} (h : H p = some (.tup [a, b, c])) (q : ∀ u, H u = none → Q (.ref u) (upd H u (.tup [a, b]))) : rSlA K (.ref p) none (some 2) H Q := by
  refine ⟨p, _, rfl, .inl (.inl h), fun ⟨_, e⟩ => ?_, fun _ u hu => q u hu⟩
  exact absurd e (by show HT.sIx 3 3 (some 2) ≠ 3; decide)
section
variable {P : Program} {w : World} {K : PySem.W.Frag} {mg : Str → Option Value} {base : Heap} {C : Addr}
theorem ok_feq (T0 : Bt mg) (T : FCls K C) (TI : FIsi K C) (hC : mg "Fleet" = some (.ref C)) (F : StM K C "__eq__" "Fleet.__eq__" sFEq) : Mf P w K mg base CX0 1 C "__eq__" ["self", "other"] (spEq (FEqv C)) := by
  refine F.ok0 scFEq (fun vs H Q E h => ?_) (fun _ _ _ _ _ _ us hl => match us, hl with | [_, _], _ => rfl) fun f cdv A outer s H vs Q E hr h => ?_
  · obtain ⟨a, b, rfl, _⟩ := h
    rfl
  obtain ⟨a, b, rfl, ⟨n, c, vn, vc, qm, ms, ms2, ⟨dx, mv, hF, p, sv, lv, m2, rfl, hp, hs, hl, hm⟩, ⟨dx', mv', hF', p', sv', lv', m2', rfl, hp', hs', hl', hm'⟩, fc, so, lo⟩, q⟩ := h
  refine ⟨_, pss_cons (ps_if (PW.pt (pw_or (pt_not (pt_val (eIsiC (K := K) T0 (pv 1) hC))) (pw_or1 (pt_cmpR (opNeD K hr.units) (pe_fld (pv 0) rfl) (pe_fld (pv 1) rfl) (nomark _))))) pss_never pss_nil)
    (pss_one (ps_ret (pe_and (pe_cmpR (opEqD K hr.units) (pe_fld (pv 0) rfl) (pe_fld (pv 1) rfl) (nomark _)) (pe_one (pe_cmpR (opEqD K hr.units) (pe_slice (slT K) (pe_fld (pv 0) rfl) po_none (po_some pe_int)) (pe_slice (slT K) (pe_fld (pv 1) rfl) po_none (po_some pe_int)) (nomark _)))))), ?_⟩
  walk_at "nf"
  have hcat : At H c vc := by
    obtain ⟨a', o, xs, e1, e2, e3, e4⟩ := fc.cat
    exact at_list.mpr ⟨a', xs, e1, .inr ⟨o, e2⟩, e4⟩
  have nok : Enc.ok n := ⟨fc.no.ok, talks_ok fc.no⟩
  have mok : Enc.ok qm := ⟨fun r hr => names_ok fc.co (so.sub r hr), fun p hp => ⟨fc.no.ok _ (lo p hp).1, names_ok fc.co (lo p hp).2⟩⟩
  refine ⟨.ref b, .ref C, .ref C, .ref C, true, rfl, .own C, TI.ty H b dx' _ hF', TI.kit, true, rfl, ?_⟩
  refine iteF' rfl ⟨a, C, dx, _, _, rfl, hF, T.cl, T.net, rfl, b, C, dx', _, _, rfl, hF', T.cl, T.net, rfl, r_ne fc.net.1 fc.net.1 nok nok ⟨_, rfl, iteF' (by rw [decide_eq_true rfl]; rfl) ?_⟩⟩
  refine ⟨a, C, dx, _, _, rfl, hF, T.cl, T.cat, rfl, b, C, dx', _, _, rfl, hF', T.cl, T.cat, rfl, r_eq hcat hcat fc.co.ok fc.co.ok ?_⟩
  rw [decide_eq_true rfl]
  refine ⟨true, rfl, iteT' rfl ⟨a, C, dx, _, _, rfl, hF, T.cl, T.mom, rfl, 2, rfl, r_slMom hp fun u1 hu1 => ?_⟩⟩
  have s1 : Same H (upd H u1 (.tup [sv, lv])) := .new hu1
  have e1 : upd H u1 (.tup [sv, lv]) u1 = some (.tup [sv, lv]) := upd_same
  generalize upd H u1 (.tup [sv, lv]) = H1 at s1 e1
  refine ⟨b, C, dx', _, _, rfl, s1 _ _ hF', T.cl, T.mom, rfl, 2, rfl, r_slMom (s1 _ _ hp') fun u2 hu2 => ?_⟩
  have s2 : Same H1 (upd H1 u2 (.tup [sv', lv'])) := .new hu2
  have e2 : upd H1 u2 (.tup [sv', lv']) u2 = some (.tup [sv', lv']) := upd_same
  generalize upd H1 u2 (.tup [sv', lv']) = H2 at s2 e2
  have s12 := s1.trans s2
  have a1 : At H2 (qm.1, qm.2) (.ref u1) := at_pair.mpr ⟨u1, sv, lv, rfl, .inl (s2 _ _ e1), hs.same s12, hl.same s12⟩
  have a2 : At H2 (qm.1, qm.2) (.ref u2) := at_pair.mpr ⟨u2, sv', lv', rfl, .inl e2, hs'.same s12, hl'.same s12⟩
  refine r_eq a1 a2 mok mok ?_
  rw [decide_eq_true rfl]
  exact q H2 fun a o e => s12 a o e
end
end G3
end

/-! ## G3SortP -/
section
set_option Elab.async false
set_option linter.all false
set_option maxRecDepth 100000
set_option maxHeartbeats 4000000
/-! sorted of pairs of a text and a tuple, the texts told apart (turned from the layer's own for pairs of ints). -/
namespace G3
open PySem PySem.Spec PyProof.Rows L2 Srt
section
variable {prog : Program} {w : World} {A : Around} {E : Value → Shared → Prop} {s : Shared}
/-- v is a tuple of a text and of the thing at r -/
def IsSR (h : Heap) (v : Value) (x : Str) (r : Addr) : Prop := ∃ a o t n, v = .ref a ∧ h.get? a = some o ∧ o.cls = .type "tuple" ∧ o.data = .seq #[.str x t, .ref r] n
theorem IsSR.keeps {h h' : Heap} {v : Value} {x : Str} {r : Addr} (p : IsSR h v x r) (k : ∀ b o, h.get? b = some o → o.cls = .type "tuple" → h'.get? b = some o) : IsSR h' v x r := by
  obtain ⟨a, o, t, n, e, ho, hc, hd⟩ := p
  exact ⟨a, o, t, n, e, k _ _ ho hc, hc, hd⟩
/-- the texts tell the tuples apart -/
def Apt (h : Heap) (vs : List Value) : Prop := ∀ v ∈ vs, ∀ u ∈ vs, ∀ x r r', IsSR h v x r → IsSR h u x r' → r = r'
theorem sr_tot {vs : List Value} (hp : ∀ v ∈ vs, ∃ x r, IsSR s.heap v x r) (ap : Apt s.heap vs) : Tot prog w A s (tuples' true) (fun p => p.1 ∈ vs) := by
  intro p q hm hm'
  obtain ⟨x, r, hx⟩ := hp _ hm
  obtain ⟨x', r', hx'⟩ := hp _ hm'
  have hap := ap _ hm _ hm' x r r' hx
  obtain ⟨a, o, t, n, e, ho, hc, hd⟩ := hx
  obtain ⟨a', o', t', n', e', ho', hc', hd'⟩ := id hx'
  rw [e, e']
  refine ⟨if x = x' then false else decide (x.cps.toList < x'.cps.toList), ?_⟩
  refine PySem.W.kat_lt ho hd ho' hd' ?_
  show PySem.W.KatLex prog w A true (decide (2 < 2)) _ [(.str x t, .str x' t'), (.ref r, .ref r')] 0 s
  refine PySem.W.kat_cons (SeqAt.EqAt.str_str x t x' t' prog w _ _ ?_)
  refine PySem.W.kat_go (fun e1 => ?_) (fun e1 => ?_)
  · have ex : x = x' := by simpa using e1
    have er : r = r' := hap (by rw [ex]; exact hx')
    subst er
    have e3 : (if x = x' then false else decide (x.cps.toList < x'.cps.toList)) = false := if_pos ex
    refine PySem.W.kat_yes (PySem.W.kat_cons (SeqAt.EqAt.same (.ref r) prog w _ _ ?_))
    exact PySem.W.kat_go (fun _ => PySem.W.kat_yes (PySem.W.kat_nil ⟨rfl, e3.symm⟩)) (fun e2 => nomatch e2)
  · have ex : ¬ x = x' := by simpa using e1
    have e3 : (if x = x' then false else decide (x.cps.toList < x'.cps.toList)) = decide (x.cps.toList < x'.cps.toList) := if_neg ex
    exact PySem.W.kat_no (oneLt_str ⟨rfl, e3.symm⟩)
theorem firsts_sr {h : Heap} : ∀ {vs : List Value}, (∀ v ∈ vs, ∃ x r, IsSR h v x r) → ∃ fs : List Value, PySem.W.KatTups h vs fs ∧ fs.length = vs.length ∧ ∀ f ∈ fs, ∃ x t, f = Value.str x t
  | [], _ => ⟨[], PySem.W.KatTups.nil, rfl, fun _ hm => by simp at hm⟩
  | v :: vs, hp => by
    obtain ⟨fs, h1, h2, h3⟩ := firsts_sr (vs := vs) fun v' hm => hp v' (List.mem_cons_of_mem _ hm)
    obtain ⟨x, r, a, o, t, n, e, ho, hc, hd⟩ := hp v (List.mem_cons_self ..)
    subst e
    refine ⟨.str x t :: fs, PySem.W.KatTups.cons ho hc hd rfl h1, by rw [List.length_cons, List.length_cons, h2], fun f hm => ?_⟩
    rcases List.mem_cons.mp hm with rfl | hm
    · exact ⟨x, t, rfl⟩
    · exact h3 f hm
theorem sr_sortable {a : Addr} {vs : List Value} (h0 : 0 < vs.length) (hp : ∀ v ∈ vs, ∃ x r, IsSR s.heap v x r) (ap : ∀ h' : Heap, (∀ b o, b ≠ a → s.heap.get? b = some o → h'.get? b = some o) → Apt h' vs) (ha : ∀ o, s.heap.get? a = some o → o.cls ≠ .type "tuple") : Sortable prog w A s a vs := by
  intro h' keep
  have hp' : ∀ v ∈ vs, ∃ x r, IsSR h' v x r := fun v hm => by
    obtain ⟨x, r, p⟩ := hp v hm
    exact ⟨x, r, p.keeps fun b o e c => keep b o (fun z => by subst z; exact ha o e c) e⟩
  obtain ⟨fs, h1, h2, h3⟩ := firsts_sr hp'
  refine ⟨tuples' true, fun Q E hq => ?_, sr_tot hp' (ap h' keep)⟩
  refine PySem.W.kat_kind (T := .type "str") h1 (by omega) (fun f hm => ?_) (by rfl) ?_
  · obtain ⟨x, t, rfl⟩ := h3 f hm
    exact PySem.W.Looks.now
  · have e : (Value.type "str" != Value.type "tuple") = true := by first | decide +kernel | rfl | decide
    rw [e]
    exact hq
theorem IsSR.same {h h' : Heap} {v : Value} {x x' : Str} {r r' : Addr} (p : IsSR h v x r) (k : ∀ b o, h.get? b = some o → o.cls = .type "tuple" → h'.get? b = some o) (q : IsSR h' v x' r') : x = x' ∧ r = r' := by
  obtain ⟨a, o, t, n, rfl, ho, hc, hd⟩ := p
  obtain ⟨a', o', t', n', e', ho', hc', hd'⟩ := q
  cases e'
  have e := k _ _ ho hc
  rw [ho'] at e
  cases e
  rw [hd] at hd'
  injection hd' with h1 h2
  have h3 := congrArg Array.toList h1
  simp only [List.cons.injEq, Value.str.injEq, Value.ref.injEq] at h3
  exact ⟨h3.1.1, h3.2.1⟩
/-- sorted(l) of pairs of a text and a tuple: a new list of the same pairs in some order -/
theorem sorted_sr {l : Addr} {vs : List Value} {Q : Value → Shared → Prop} (hl : s.heap.IsList l vs.toArray) (hz : vs.length ≤ sizeLine) (hp : ∀ v ∈ vs, ∃ x r, IsSR s.heap v x r) (ap : Apt s.heap vs)
    (h : ∀ (h' : Heap) (d : Addr) (out : List Value), out.Perm vs → (∀ b o, s.heap.get? b = some o → h'.get? b = some o) → s.heap.objs.size ≤ d → (∃ n, h'.get? d = some (seqObj "list" out.toArray n)) → Q (.ref d) { s with heap := h' }) :
    wpAny (model prog w) A (call (.builtin "sorted") [.ref l]) Q E s := by
  refine sorted_any hl hz (fun h2 h₁ a ha k => ?_) fun out ho => ?_
  · have na : ∀ o, h₁.get? a = some o → o.cls ≠ .type "tuple" := fun o e => by
      have e' : some o = some (seqObj "list" vs.toArray 0) := e.symm.trans ha
      cases e'
      intro c
      exact absurd (Value.type.inj c) (by decide)
    refine sr_sortable (s := { s with heap := h₁ }) (by omega) (fun v hm => ?_) (fun h' k' v hv u hu x r r' h1 h2 => ?_) na
    · obtain ⟨x, r, p⟩ := hp v hm
      exact ⟨x, r, p.keeps fun b o e _ => (k b o e).2⟩
    · have kk : ∀ b o, s.heap.get? b = some o → o.cls = .type "tuple" → h'.get? b = some o := fun b o e _ => k' b o (k b o e).1 (k b o e).2
      obtain ⟨x1, r1, p1⟩ := hp v hv
      obtain ⟨x2, r2, p2⟩ := hp u hu
      obtain ⟨rfl, rfl⟩ := p1.same kk h1
      obtain ⟨rfl, rfl⟩ := p2.same kk h2
      exact ap v hv u hu _ _ _ p1 p2
  · exact h _ _ out ho (fun b o e => sortedAll_old e) (Nat.le_succ _) (sortedAll_at s.heap vs out.toArray)
end
section
variable {X : Cx}
def rSortedSR (K : PySem.W.Frag) : List V → Hp → VK → Prop := fun vs H Q => ∃ a xs, vs = [V.ref a] ∧ SqL K H a xs ∧ (∀ x ∈ xs, ∃ t i j, x = V.ref t ∧ H t = some (.tup [.str i, .ref j])) ∧
  (∀ x ∈ xs, ∀ y ∈ xs, ∀ t u i j j', x = V.ref t → y = V.ref u → H t = some (.tup [.str i, .ref j]) → H u = some (.tup [.str i, .ref j']) → j = j') ∧ ∀ ys p, ys.Perm xs → H p = none → Q (.ref p) (upd H p (.lst ys))
theorem cr_sortedSR : CallR X (.builtin "sorted") (rSortedSR X.K) := by
  intro pins s σ H vs us Q I r h
  obtain ⟨a, xs, rfl, hs, hx, hap, q⟩ := h
  obtain ⟨its, rv, hl, hz⟩ := I.list hs
  obtain ⟨u, rfl, ru⟩ := vals1 r
  obtain rfl : u = Value.ref a := ru
  obtain ⟨e1, e2⟩ := refs_back rv fun x m => by
    obtain ⟨t, _, _, e, _⟩ := hx x m
    exact ⟨t, e⟩
  have key : ∀ v ∈ its, ∃ t i j, v = .ref t ∧ V.ref t ∈ xs ∧ H t = some (.tup [.str i, .ref j]) ∧ IsSR s.heap v i j := fun v hv => by
    obtain ⟨t, rfl⟩ := e2 v hv
    have hm : V.ref t ∈ xs := by rw [e1]; exact List.mem_map.mpr ⟨_, hv, rfl⟩
    obtain ⟨t', i, j, e, ht⟩ := hx _ hm
    cases e
    obtain ⟨_, its2, r2, o, ho, hc, n, hd⟩ := I.hok _ _ ht
    obtain ⟨u1, u2, rfl, ri, rj⟩ := vals2 r2
    obtain ⟨t1, rfl⟩ := ri
    cases rj
    exact ⟨t, i, j, rfl, hm, ht, t, o, t1, n, rfl, ho, hc, hd⟩
  refine sorted_sr hl.isList (by rw [← rv.length]; exact hz) (fun v hv => ?_) (fun v hv u hu x r r' h1 h2 => ?_) fun h' d out hp k hd hn => ?_
  · obtain ⟨t, i, j, _, _, _, h⟩ := key v hv
    exact ⟨i, j, h⟩
  · obtain ⟨t, i, j, ev, m1, t1, p1⟩ := key v hv
    obtain ⟨t', i', j', eu, m2, t2, p2⟩ := key u hu
    obtain ⟨rfl, rfl⟩ := p1.same (fun _ _ e _ => e) h1
    obtain ⟨rfl, rfl⟩ := p2.same (fun _ _ e _ => e) h2
    exact hap _ m1 _ m2 t t' _ _ _ rfl rfl t1 t2
  · have h3 : ∀ u ∈ out, ∃ a, u = Value.ref a := fun u hu => e2 u (hp.mem_iff.mp hu)
    obtain ⟨n, hn⟩ := hn
    refine ⟨.ref d, upd H d (.lst (out.map backV)), I.laid (t' := s.toks) k hd ⟨?_, out, n, vals_back h3, hn⟩, rfl, q _ d ?_ (I.hok.fresh hd)⟩
    · rw [List.length_map, hp.length_eq, ← rv.length]; exact hz
    · rw [e1]; exact hp.map backV
end
end G3
end

/-! ## G3Deck -/
section
set_option Elab.async false
set_option linter.all false
set_option maxRecDepth 100000
set_option maxHeartbeats 4000000
local macro_rules | `(tactic| walk_at "nf") => `(tactic| simp only [L2.tRet, L2.tRetN, L2.tAndV, L2.tOrV, L2.tNotV, L2.tCB, L2.tCons, L2.tNil, L2.tVar, L2.tC, L2.tDIn, L2.tDNotIn, L2.tDGet, L2.tOp, L2.tUn, L2.tTest, L2.tB, L2.tIf, L2.tIfS, L2.tAnd, L2.tOr, L2.tNot, L2.tSeq, L2.tAsg, L2.gName, L2.tDrop, L2.tNext, L2.tCall, L2.tTup, L2.tLst, L2.tBM, L2.tBM0, L2.tSl, L2.tPart, L2.tNoPart, L2.sDPut, L2.tFld, L2.sFld, L2.tMeth, L2.tYes, L2.gTup, L2.gCons, L2.gNil, L2.tIsN, L2.tNotN, L2.tPar, L2.tPar3, L2.tDNewK, L2.tDisp, L2.tPairs, L2.tDGet1, StX.tStar, L2.gSub, L2.tProp, L2.tVeI, L2.tOst, L2.tMkO, L2.tDNewT, L2.tLock, G3.tFrzS, L2.tMake, L2.tDNewT, G3.lcL_fld, G3.lcT_fld, G3.forL_fld, G3.tListVals, G3.lc2T_op, G3.lc2L_call, L2.tGThen, L2.tG0, L2.tPlain, L2.GEnds.at, L2.tGYield, L2.tCallG, L2.tListG, G3.tTupIx, G3.dcT_op, G3.tFrz, G3.dcI_frz, G3.lcI_frz, G3.lcY_frz, G3.lcI_call, G3.lcT_lit, G3.forT_lit, G3.lcL_call, G3.lcL_op, G3.lcL_dget, G3.lcT_call, G3.lcT_op, G3.lcT_dget, G3.forL_call, G3.forL_op, G3.forL_dget, G3.forT_call, G3.forT_op, G3.forT_dget, G3.ex_l1, G3.ex_l2, G3.ex_l3,
  G3.start_eq, G3.cxOf_K, G3.wipe_nil, G3.wipe_cons, List.map_cons, List.map_nil, List.nil_append, List.cons_append, List.append_nil, List.getElem?_cons_zero, List.getElem?_cons_succ, List.set_cons_zero, List.set_cons_succ, List.set_nil, List.length_cons, List.length_nil, List.replicate, Option.some.injEq, G3.ex_eq, Nat.reduceAdd, Nat.reduceSub, Nat.zero_add, List.replicate_succ, List.replicate_zero, true_and, if_true, if_false, Bool.false_eq_true, Nat.add_zero, Int.add_zero])
namespace G3
open PySem PySem.Spec PyProof.Rows L2

abbrev sDeck : Stmt := top 66
abbrev sDraw : Stmt := top 67
abbrev sAny : Stmt := top 68
theorem scDeck : FnScope ["_law_script", "_law_k", "_law_cell", "_law_own"] ["_law_script", "_law_k"] (defScope sDeck) := ⟨rfl, rfl, rfl, by decide +kernel, rfl, by decide +kernel, by decide +kernel⟩
theorem scDraw : FnScope ["_law_deck_here", "_law_many", "_law_digit", "_law_prime", "_law_mixed"] ["_law_deck_here", "_law_many"] (defScope sDraw) := ⟨rfl, rfl, rfl, by decide +kernel, rfl, by decide +kernel, by decide +kernel⟩
theorem scAny : FnScope ["_law_deck_here", "_law_items"] ["_law_deck_here", "_law_items"] (defScope sAny) := ⟨rfl, rfl, rfl, by decide +kernel, rfl, by decide +kernel, by decide +kernel⟩
def CPowW (i j : Int) : Prop := 0 ≤ j ∧ (Builtin.Int.intBits i : Int) * j ≤ 2 ^ 27
theorem op_powW {X : Cx} : OpR X (binaryOp .Pow) (rI CPowW fun i j => .int (i ^ j.toNat)) := opI fun _ _ _ _ _ _ _ hc q => pow_int hc.1 hc.2 q
/-- the deck -/
def DeckAt (H : Hp) (D : Addr) (b : Nat) : Prop := ∃ own seed c : Int, H D = some (.lst [.int own, .int seed, .int c]) ∧ 0 ≤ own ∧ 0 ≤ seed ∧ seed < 2305843009213693921 ∧ 0 ≤ c ∧ c ≤ b
def spDraw : Sp := fun vs H Q _ => ∃ (D : Addr) (b : Nat) (m : Int), vs = [.ref D, .int m] ∧ DeckAt H D b ∧ b ≤ 1000000 ∧ 1 ≤ m ∧ m < 1073741824 ∧ ∀ (r : Int) H', 0 ≤ r → r < m → Keep [D] H H' → DeckAt H' D (b + 1) → Q (.int r) H'
section
variable {P : Program} {w : World} {K : PySem.W.Frag} {mg : Str → Option Value} {base : Heap}
theorem ok_draw (F : St0 K mg "_law_draw" sDraw) : Df P w K mg base CX0 1 "_law_draw" ["_law_deck_here", "_law_many"] spDraw := by
  refine F.ok0 scDraw (fun vs H Q E h => ?_) (fun _ _ _ _ _ _ us hl => match us, hl with | [_, _], _ => rfl) fun f cdv A outer s H vs Q E hr h => ?_
  · obtain ⟨D, b, m, rfl, _⟩ := h
    rfl
  obtain ⟨D, b, m, rfl, ⟨own, seed, c, hD, o1, o2, o3, o4, o5⟩, hb, m1, m2, q⟩ := h
  refine ⟨_, pss_cons (ps_if (pt_cmpR op_gt (eL K (pv 0) pe_int) pe_int (nomark _))
      (pss_cons (ps_set (i := 2) scDraw.nd rfl (Or.inl rfl) (pe_op op_mod (eL K (pv 0) pe_int) (pv 1)))
      (pss_cons (ps_asg (pe_op op_fdiv (eL K (pv 0) pe_int) (pv 1)) (pg_sub (pv 0) pe_int set_list)) (pss_one (ps_ret (pv 2))))) pss_nil)
    (pss_cons (ps_asg (pe_op op_add (eL K (pv 0) pe_int) pe_int) (pg_sub (pv 0) pe_int set_list))
    (pss_cons (ps_set (i := 3) scDraw.nd rfl (Or.inl rfl) (eL K (pe_lst (pa_cons pe_int (pa_cons pe_int (pa_cons pe_int (pa_cons pe_int (pa_cons pe_int pa_nil)))))) (pe_op op_mod (eL K (pv 0) pe_int) pe_int)))
    (pss_cons (ps_set (i := 4) scDraw.nd rfl (Or.inl rfl) (pe_op op_mod (pe_op op_powW (pe_op op_add (pe_op op_add (eL K (pv 0) pe_int) (pe_op op_mul (pe_op op_mul pe_int (eL K (pv 0) pe_int)) (eL K (pv 0) pe_int))) pe_int) pe_int) (pv 3)))
    (pss_one (ps_ret (pe_op op_mod (pe_op op_fdiv (pe_op op_mod (pe_op op_mul (pv 4) (pe_op op_add (pe_op op_mod (pv 4) pe_int) (pe_op op_mul pe_int (eL K (pv 0) pe_int)))) pe_int) pe_int) (pv 1))))))), ?_⟩
  walk_at "nf"
  have ix : ∀ {H' : Hp} {a : Addr} {xs : List V} {j : Nat} {v : V} {R : VK}, H' a = some (.lst xs) → xs[j]? = some v → R v H' → rIxL K (.ref a) (.int (j : Int)) H' R := fun h e r => ⟨_, _, _, _, rfl, rfl, .of h, atI_nat e, r⟩
  refine ix (j := 0) hD rfl ⟨_, _, rfl, rfl, _, rfl, ?_⟩
  by_cases h0 : 0 < own
  · refine iteT' (decide_eq_true h0) (ix (j := 0) hD rfl ⟨_, _, rfl, rfl, (by show (0 : Int) < m; omega), ix (j := 0) hD rfl ⟨_, _, rfl, rfl, ⟨by omega, m2⟩, D, _, 0, 0, rfl, rfl, hD, rfl, ?_⟩⟩)
    exact q _ _ (Int.emod_nonneg _ (by omega)) (Int.emod_lt_of_pos _ (by omega)) (.upd (by simp)) ⟨own / m, seed, c, upd_same, Int.ediv_nonneg o1 (by omega), o2, o3, o4, by omega⟩
  · refine iteF' (decide_eq_false h0) (ix (j := 2) hD rfl ⟨_, _, rfl, rfl, D, _, 2, 2, rfl, rfl, hD, rfl, by decide, fun p hp => ?_⟩)
    have k1 : Keep [D] H (upd H D (.lst [.int own, .int seed, .int (c + 1)])) := .upd (by simp)
    have e1 : upd H D (.lst [.int own, .int seed, .int (c + 1)]) D = some (.lst [.int own, .int seed, .int (c + 1)]) := upd_same
    have hp' : upd H D (.lst [.int own, .int seed, .int (c + 1)]) p = none := hp
    show rIxL K (V.ref D) (V.int 2) (upd (upd H D (.lst [.int own, .int seed, .int (c + 1)])) p _) _
    generalize upd H D (.lst [.int own, .int seed, .int (c + 1)]) = H1 at k1 e1 hp'
    have s2 : Same H1 (upd H1 p (.lst [V.int 2147483647, V.int 2147483629, V.int 2147483587, V.int 2147483579, V.int 2147483563])) := .new hp'
    have e2 : upd H1 p (.lst [V.int 2147483647, V.int 2147483629, V.int 2147483587, V.int 2147483579, V.int 2147483563]) p = some (.lst [V.int 2147483647, V.int 2147483629, V.int 2147483587, V.int 2147483579, V.int 2147483563]) := upd_same
    generalize upd H1 p (.lst [V.int 2147483647, V.int 2147483629, V.int 2147483587, V.int 2147483579, V.int 2147483563]) = H2 at s2 e2
    have d2 := s2 _ _ e1
    obtain ⟨j, pr, ej, ea, p1, p2⟩ : ∃ (j : Nat) (pr : Int), (c + 1) % 5 = (j : Int) ∧ [V.int 2147483647, V.int 2147483629, V.int 2147483587, V.int 2147483579, V.int 2147483563][j]? = some (.int pr) ∧ 0 < pr ∧ pr < 2 ^ 31 := by
      have : (c + 1) % 5 = 0 ∨ (c + 1) % 5 = 1 ∨ (c + 1) % 5 = 2 ∨ (c + 1) % 5 = 3 ∨ (c + 1) % 5 = 4 := by omega
      rcases this with e | e | e | e | e
      · exact ⟨0, _, e, rfl, by decide, by decide⟩
      · exact ⟨1, _, e, rfl, by decide, by decide⟩
      · exact ⟨2, _, e, rfl, by decide, by decide⟩
      · exact ⟨3, _, e, rfl, by decide, by decide⟩
      · exact ⟨4, _, e, rfl, by decide, by decide⟩
    have hc1 : 0 ≤ c + 1 ∧ c + 1 ≤ 1000001 := by omega
    have hsq : 0 ≤ 98317 * (c + 1) * (c + 1) ∧ 98317 * (c + 1) * (c + 1) ≤ 98317 * 1000001 * 1000001 := by
      refine ⟨Int.mul_nonneg (by omega) hc1.1, Int.mul_le_mul (by omega) hc1.2 hc1.1 (by decide)⟩
    refine ix (j := 2) d2 rfl ⟨_, _, rfl, rfl, (by show (0 : Int) < 5; decide), ?_⟩
    show rIxL K (V.ref p) (V.int ((c + 1) % 5)) H2 _
    rw [ej]
    refine ix e2 ea (ix (j := 1) d2 rfl (ix (j := 2) d2 rfl ⟨_, _, rfl, rfl, .inl ⟨by decide, by decide⟩, ix (j := 2) d2 rfl ⟨_, _, rfl, rfl, .inr ⟨by omega, by omega⟩, _, _, rfl, rfl, _, _, rfl, rfl, _, _, rfl, rfl, ⟨by decide, ?_⟩, _, _, rfl, rfl, p1, ?_⟩⟩))
    · have := intBits_le_64 (k := seed + 98317 * (c + 1) * (c + 1) + 43) (by omega) (by omega)
      show (Builtin.Int.intBits (seed + 98317 * (c + 1) * (c + 1) + 43) : Int) * 3 ≤ 2 ^ 27
      omega
    · have b1 := Int.emod_nonneg ((seed + 98317 * (c + 1) * (c + 1) + 43) ^ (3 : Int).toNat) (show pr ≠ 0 by omega)
      have b2 := Int.emod_lt_of_pos ((seed + 98317 * (c + 1) * (c + 1) + 43) ^ (3 : Int).toNat) p1
      refine ⟨_, _, rfl, rfl, (by show (0 : Int) < 10007; decide), ix (j := 2) d2 rfl ⟨_, _, rfl, rfl, .inl ⟨by decide, by decide⟩, _, _, rfl, rfl, _, _, rfl, rfl, .inl ⟨by omega, by omega⟩, _, _, rfl, rfl, (by show (0 : Int) < 2305843009213693907; decide), _, _, rfl, rfl, ⟨by decide, by decide⟩, _, _, rfl, rfl, (by show (0 : Int) < m; omega), ?_⟩⟩
      exact q _ _ (Int.emod_nonneg _ (by omega)) (Int.emod_lt_of_pos _ (by omega)) (k1.trans (.same s2)) ⟨own, seed, c + 1, d2, o1, o2, o3, by omega, by push_cast; omega⟩
end
end G3
end

/-! ## G3Any -/
section
set_option Elab.async false
set_option linter.all false
set_option maxRecDepth 100000
set_option maxHeartbeats 4000000
local macro_rules | `(tactic| walk_at "nf") => `(tactic| simp only [L2.tRet, L2.tRetN, L2.tAndV, L2.tOrV, L2.tNotV, L2.tCB, L2.tCons, L2.tNil, L2.tVar, L2.tC, L2.tDIn, L2.tDNotIn, L2.tDGet, L2.tOp, L2.tUn, L2.tTest, L2.tB, L2.tIf, L2.tIfS, L2.tAnd, L2.tOr, L2.tNot, L2.tSeq, L2.tAsg, L2.gName, L2.tDrop, L2.tNext, L2.tCall, L2.tTup, L2.tLst, L2.tBM, L2.tBM0, L2.tSl, L2.tPart, L2.tNoPart, L2.sDPut, L2.tFld, L2.sFld, L2.tMeth, L2.tYes, L2.gTup, L2.gCons, L2.gNil, L2.tIsN, L2.tNotN, L2.tPar, L2.tPar3, L2.tDNewK, L2.tDisp, L2.tPairs, L2.tDGet1, StX.tStar, L2.gSub, L2.tProp, L2.tVeI, L2.tOst, L2.tMkO, L2.tDNewT, L2.tLock, G3.tFrzS, L2.tMake, L2.tDNewT, G3.lcL_fld, G3.lcT_fld, G3.forL_fld, G3.tListVals, G3.lc2T_op, G3.lc2L_call, L2.tGThen, L2.tG0, L2.tPlain, L2.GEnds.at, L2.tGYield, L2.tCallG, L2.tListG, G3.tTupIx, G3.dcT_op, G3.tFrz, G3.dcI_frz, G3.lcI_frz, G3.lcY_frz, G3.lcI_call, G3.lcT_lit, G3.forT_lit, G3.lcL_call, G3.lcL_op, G3.lcL_dget, G3.lcT_call, G3.lcT_op, G3.lcT_dget, G3.forL_call, G3.forL_op, G3.forL_dget, G3.forT_call, G3.forT_op, G3.forT_dget, G3.ex_l1, G3.ex_l2, G3.ex_l3,
  G3.start_eq, G3.cxOf_K, G3.wipe_nil, G3.wipe_cons, List.map_cons, List.map_nil, List.nil_append, List.cons_append, List.append_nil, List.getElem?_cons_zero, List.getElem?_cons_succ, List.set_cons_zero, List.set_cons_succ, List.set_nil, List.length_cons, List.length_nil, List.replicate, Option.some.injEq, G3.ex_eq, Nat.reduceAdd, Nat.reduceSub, Nat.zero_add, List.replicate_succ, List.replicate_zero, true_and, if_true, if_false, Bool.false_eq_true, Nat.add_zero, Int.add_zero])
namespace G3
open PySem PySem.Spec PyProof.Rows L2

def spAny (K : PySem.W.Frag) : Sp := fun vs H Q _ => ∃ (D a : Addr) (b : Nat) (xs : List V), vs = [.ref D, .ref a] ∧ DeckAt H D b ∧ b ≤ 1000000 ∧ xs ≠ [] ∧ xs.length ≤ 1000 ∧ ((∀ H', Keep [D] H H' → SqL K H' a xs) ∨ (∀ H', Keep [D] H H' → SqT K H' a xs)) ∧ ∀ v H', v ∈ xs → Keep [D] H H' → DeckAt H' D (b + 1) → Q v H'
section
variable {P : Program} {w : World} {K : PySem.W.Frag} {mg : Str → Option Value} {base : Heap}
theorem ok_any (T : Bt mg) (G : Df P w K mg base CX0 1 "_law_draw" ["_law_deck_here", "_law_many"] spDraw) (F : St0 K mg "_law_any" sAny) : Df P w K mg base CX0 2 "_law_any" ["_law_deck_here", "_law_items"] (spAny K) := by
  refine F.ok0 scAny (fun vs H Q E h => ?_) (fun _ _ _ _ _ _ us hl => match us, hl with | [_, _], _ => rfl) fun f cdv A outer s H vs Q E hr h => ?_
  · obtain ⟨D, a, b, xs, rfl, _⟩ := h
    rfl
  obtain ⟨D, a, b, xs, rfl, hD, hb, hne, hlen, hx, q⟩ := h
  have h1 : 1 ≤ xs.length := by
    cases e : xs with
    | nil => exact absurd e hne
    | cons a b => simp
  have fin : ∀ (r : Int) H', 0 ≤ r → r < (xs.length : Int) → Keep [D] H H' → DeckAt H' D (b + 1) → ∃ v, atI xs r = some v ∧ Q v H' := fun r H' r0 r1 k d => by
    obtain ⟨j, rfl⟩ : ∃ j : Nat, r = (j : Int) := ⟨r.toNat, by omega⟩
    have hj : j < xs.length := by omega
    exact ⟨xs[j], atI_nat (List.getElem?_eq_getElem hj), q _ _ (List.getElem_mem hj) k d⟩
  rcases hx with hx | hx
  · refine ⟨_, pss_one (ps_ret (eL K (pv 1) (pe_df G hr pass0 (pa_cons (pv 0) (pa_cons (eLen K T (pv 1)) pa_nil))))), ?_⟩
    walk_at "nf"
    refine r_lenL (hx H .refl) ⟨D, b, xs.length, rfl, hD, hb, by omega, by omega, fun r H' r0 r1 k d => ?_⟩
    obtain ⟨v, e, qv⟩ := fin r H' r0 r1 k d
    exact ⟨a, xs, r, v, rfl, rfl, hx H' k, e, qv⟩
  · refine ⟨_, pss_one (ps_ret (eT K (pv 1) (pe_df G hr pass0 (pa_cons (pv 0) (pa_cons (eLen K T (pv 1)) pa_nil))))), ?_⟩
    walk_at "nf"
    refine ⟨.ref a, xs.length, rfl, ?_, D, b, xs.length, rfl, hD, hb, by omega, by omega, fun r H' r0 r1 k d => ?_⟩
    · exact .inr ⟨xs, hx H .refl, rfl⟩
    · obtain ⟨v, e, qv⟩ := fin r H' r0 r1 k d
      exact ⟨a, xs, r, v, rfl, rfl, hx H' k, e, qv⟩
end
end G3
end

/-! ## G3With -/
section
set_option Elab.async false
set_option linter.all false
set_option maxRecDepth 100000
set_option maxHeartbeats 4000000
/-! with C(..) as y: body, the body may raise: the own __exit__ is called with the exception, and on it goes. -/
namespace G3
open PySem PySem.Spec PyProof.Rows L2
open L2H (RoomH roomH_of)

/-! ### a def that may be called while an exception is handled -/
structure FnW (P : Program) (w : World) (K : PySem.W.Frag) (mg : Str → Option Value) (base : Heap) (CX : CXT) (k : Nat) (f : Addr) (fd : FuncData) (ps : List Str) (sp : Sp) : Prop where
  len : ∀ vs H Q E, sp vs H Q E → vs.length = ps.length
  run : ∀ (A : Around) (outer : List Env) (s : Shared) (H : Hp) (args : Args) (us : List Value) (vs : List V) (Q : VK) (E : XK), RoomH k A → Env0 P w K mg base A outer s H → BindsTo s fd args (ps.zip us) → Vals vs us → sp vs H Q E →
    codeAny (model P w) A (.call (.ref f) args) (CR CX outer P w H s Q E) s
def cxW (CX : CXT) (P : Program) (w : World) (K : PySem.W.Frag) (mg : Str → Option Value) (base : Heap) (N : List Str) (qual : Str) (scope : Scope) (f : Addr) (cd : Value) (A : Around) (outer : List Env) (s : Shared) (H : Hp) (E : XK) : Cx :=
  { cxOf CX P w K mg base N qual scope f cd A outer s H E with calm := false }
theorem inv_startW {CX : CXT} {P : Program} {w : World} {K : PySem.W.Frag} {mg : Str → Option Value} {base : Heap} {N ps : List Str} {qual : Str} {scope : Scope} {f : Addr} {cd : Value} {A : Around} {outer : List Env} {s s1 : Shared} {H : Hp} {E : XK} {us : List Value} {vs : List V}
    (S : FnScope N ps scope) (e0 : Env0 P w K mg base A outer s H) (hl : vs.length = ps.length) (r : Vals vs us)
    (x : InCallC s s.heap.objs.size (bindL (envOfC qual scope s.heap.objs.size f cd).kindOf (ps.zip us) fun _ => none) (cellsFrom (s.heap.objs.size + 1) scope.names []) (bindC (envOfC qual scope s.heap.objs.size f cd).kindOf (ps.zip us) fun _ => none) s1) :
    Inv (cxW CX P w K mg base N qual scope f cd A outer s H E) [] (L2.start N vs) H s1 := by
  have hpl : ps.length ≤ N.length := by have := congrArg List.length S.pre; rw [List.length_take] at this; omega
  obtain ⟨h1, tk, rfl, hk⟩ := x.done
  have noA : ∀ b : Addr, b ∉ (cxW CX P w K mg base N qual scope f cd A outer s H E).ex := fun b z => absurd (show b ∈ ([] : List Addr) from z) (by simp)
  refine ⟨⟨e0.mod, S.kind, rfl, rfl, Nat.le_refl _, fun y z c h1 h2 => ?_, fun y hy => ?_, fun y c _ h => ?_, (fun z => Bool.noConfusion (show false = true from z)), Around.frames_deeper e0.frames, .inr ⟨rfl, rfl⟩, fun b z => absurd z (noA b), e0.bs, e0.bsz, fun b _ _ => noA b, fun b z => absurd z (noA b), e0.funs, e0.frf⟩,
    rfl, e0.bare, Un.kept hk, ⟨_, x.toInCall.ns, fun i y v h1 h2 h3 => ?_⟩, fun y c h => ⟨_, x.cell y c h⟩, e0.hok.fresh (Nat.le_refl _), fun y c h => ?_, fun q hq => ?_, e0.hok.kept hk, ?_⟩
  · exact name_of_addr x.apart (PySem.mem_of_lookup h1) (PySem.mem_of_lookup h2)
  · have hy : scope.names.lookup y = some .cell ∨ scope.names.lookup y = some .free := hy
    rcases hy with hy | hy
    · exact cell_has hy
    · exact absurd rfl (S.nofree _ (PySem.mem_of_lookup hy))
  · exact Nat.le_of_lt (x.above y c (PySem.mem_of_lookup h))
  · have hi : i < vs.length := by
      unfold L2.start at h2
      by_cases hi : i < vs.length
      · exact hi
      · rw [List.getElem?_append_right (by simpa using hi)] at h2
        rw [List.getElem?_replicate] at h2
        split at h2 <;> cases h2
    have ha : vs[i]? = some v := by
      unfold L2.start at h2
      rw [List.getElem?_append_left (by simpa using hi), List.getElem?_map] at h2
      cases e : vs[i]? with
      | none => rw [e] at h2; cases h2
      | some a => rw [e] at h2; cases h2; rfl
    obtain ⟨u, hu, rv⟩ := r.get ha
    have hp : ps[i]? = some y := by
      rw [← S.pre, List.getElem?_take_of_lt (by omega)]; exact h1
    have ndP : ps.Nodup := by rw [← S.pre]; exact S.nd.sublist (List.take_sublist _ _)
    refine ⟨u, rv, ?_⟩
    rcases S.par y (List.mem_of_getElem? hp) with k | k
    · exact .inl ⟨k, bindL_get ndP hp hu k⟩
    · obtain ⟨c, e⟩ := cell_has (n := s.heap.objs.size + 1) k
      refine .inr ⟨.inl k, c, e, ?_⟩
      have q := x.cell y c e
      rw [bindC_get ndP hp hu (by show scope.names.lookup y ≠ _; rw [k]; decide)] at q
      exact q
  · exact e0.hok.fresh (Nat.le_of_lt (x.above y c (PySem.mem_of_lookup h)))
  · exact absurd (show q ∈ ([] : List (Addr × Obj)) ++ [] from hq) (by simp)
  · unfold L2.start
    show _ = N.length
    rw [List.length_append, List.length_map, List.length_replicate]
    omega
theorem fn_ofW {CX : CXT} {P : Program} {w : World} {K : PySem.W.Frag} {mg : Str → Option Value} {base : Heap} {k : Nat} {f : Addr} {name qual : Str} {params : Arguments} {body : List Stmt} {scope : Scope} {dV kV doc pm cdv ct oc : Value} {an od : Option Addr}
    {osl : Array (Option Value)} {N ps : List Str} {sp : Sp} (lk : K.lookup f = some ⟨oc, od, .func (PySem.W.fnOf name qual params body scope dV kV doc pm an cdv ct), osl⟩) (hcd : PySem.W.codeIn K cdv qual = true) (S : FnScope N ps scope)
    (len : ∀ vs H Q E, sp vs H Q E → vs.length = ps.length)
    (hbody : ∀ (A : Around) (outer : List Env) (s : Shared) (H : Hp) (vs : List V) (Q : VK) (E : XK), RoomH k (A.deeper (envOfC qual scope s.heap.objs.size f cdv)) → sp vs H Q E →
      ∃ t, PSs (cxW CX P w K mg base N qual scope f cdv A outer s H E) body t ∧ t { nx := fun _ H' => Q .non H', rt := Q } (L2.start N vs) H) :
    FnW P w K mg base CX (k + 1) f (PySem.W.fnOf name qual params body scope dV kV doc pm an cdv ct) ps sp := by
  refine ⟨len, fun A outer s H args us vs Q E hr e0 hb r hsp => ?_⟩
  have hl := len _ _ _ _ hsp
  have KX : K.In s.heap := e0.mod.kin.keeps fun b o e => (e0.bs b o e).1
  have lim : s.heap.NoLimit := e0.mod.nolimit.keeps fun b o e => (e0.bs b o e).1
  have hkind : ∀ y ∈ ps.zip us, scope.names.lookup y.1 = some .local ∨ (scope.names.lookup y.1 = some .cell ∧ ((cellsFrom (s.heap.objs.size + 1) scope.names []).lookup y.1).isSome = true) := fun ⟨n, v⟩ hy => by
    rcases S.par n (List.of_mem_zip hy).1 with q | q
    · exact .inl q
    · exact .inr ⟨q, PySem.W.cellsFrom_some _ _ _ (.inl q)⟩
  refine codeAny_call_function hr.depth (KX _ _ lk) rfl S.co S.gen rfl (PySem.W.codeRec_of KX hcd) (hb _ _ _ _ ?_)
  refine wpAny_newFunctionEnv_cells S.kind hkind fun env he s1 x => ?_
  subst he
  refine ⟨lim.keeps x.toInCall.keep, codeAny_func ?_⟩
  obtain ⟨t, ht, hq⟩ := hbody A outer s H vs Q E (hr.deeper _) hsp
  have I : Inv (cxW CX P w K mg base N qual scope f cdv A outer s H E) [] (L2.start N vs) H s1 := inv_startW S e0 hl r x
  refine wpAny_mono (ht.run [] s1 (L2.start N vs) H _ I hq) (fun fl s' hs => ?_) fun e s' hs => hs
  have fin : ∀ {σ' : L2.St} {H' : Hp} {v : V} {u : Value}, Inv (cxW CX P w K mg base N qual scope f cdv A outer s H E) [] σ' H' s' → RelV v u → Q v H' → CE outer P w H s Q u s' :=
    fun {σ' H' v u} J rv q => ⟨v, H', J.os, J.bare, J.base, J.hok, rv, q⟩
  cases fl with
  | ret u =>
    obtain ⟨v, σ', H', J, rv, q⟩ := hs
    exact fin J rv q
  | next =>
    obtain ⟨σ', H', J, q⟩ := hs
    exact fin (v := V.non) (u := Value.none) J rfl q
  | brk =>
    obtain ⟨_, _, _, q⟩ := hs
    exact False.elim q
  | cont =>
    obtain ⟨_, _, _, q⟩ := hs
    exact False.elim q
/-- the method m of the class at C keeps the promise sp, whatever is handled -/
def MfW (P : Program) (w : World) (K : PySem.W.Frag) (mg : Str → Option Value) (base : Heap) (k : Nat) (C : Addr) (m : Str) (ps : List Str) (sp : Sp) : Prop :=
  ∃ f fd, Meth K C m f ∧ Binds K fd ps [] ∧ FnW P w K mg base CX0 k f fd ps sp

/-! ### the model's with -/
section
variable {prog : Program} {w : World} {A : Around} {E : Value → Shared → Prop} {s : Shared} {env : Env} {K : PySem.W.Frag} {x C fe fx : Addr} {ox : Obj} {od : Option Obj} {pos : Pos}
/-- the body's exception e: noted, __exit__ called with it, on it goes -/
def ExitX (prog : Program) (w : World) (A : Around) (E : Value → Shared → Prop) (env : Env) (x fx : Addr) (Q : Flow → Shared → Prop) (e : Value) (s : Shared) : Prop :=
  e ≠ byPass ∧ wpAny (model prog w) A (noteFrame e env) (fun _ s2 => wpAny (model prog w) A (setFlight e none) (fun _ s3 =>
    wpAny (model prog w) A (typeOf e) (fun t s4 => wpAny (model prog w) A (tracebackOf e) (fun tb s5 =>
      codeAny (model prog w) (A.mark (some e)) (.call (.ref fx) ⟨[.ref x, t, e, tb], []⟩) (fun r s6 => match r with
        | .ok (.ret v) => v = .none ∧ wpAny (model prog w) A (PySem.passOn "with" e env) Q E s6
        | _ => False) s5) E s4) E s3) E s2) E s
theorem kw_coreX {b : Value → Sem Unit} {bdy : Sem Flow} {Q : Flow → Shared → Prop} (X : K.In s.heap) (I : PySem.W.InstAt s.heap x ox C od) (he : PySem.W.findIn K (.ref C) "__enter__" = some (some (.ref fe))) (hfe : PySem.W.isFn K (.ref fe) = true)
    (hx : PySem.W.findIn K (.ref C) "__exit__" = some (some (.ref fx))) (hfx : PySem.W.isFn K (.ref fx) = true)
    (h : wpAny (model prog w) A (call (.ref fe) [.ref x]) (fun v s₂ => wpAny (model prog w) A (b v) (fun _ s₃ => wpAny (model prog w) A bdy (fun f s₄ => wpAny (model prog w) A (call (.ref fx) [.ref x, .none, .none, .none]) (fun _ s₅ => Q f s₅) E s₄)
      (ExitX prog w A E env x fx Q) s₃) (fun _ _ => False) s₂) E s) :
    wpAny (model prog w) A (withItem false pos env (pure (.ref x)) (some b) bdy) Q E s := by
  obtain ⟨cd, hcd, ae⟩ := PySem.W.kw_along he
  obtain ⟨cd', hcd', ax⟩ := PySem.W.kw_along hx
  cases hcd.symm.trans hcd'
  obtain ⟨hh, g, d, tt, os⟩ := s
  have L1 : PySem.W.Looks (model prog w) hh (specialOnItsLine (.ref x) "__enter__") (some (.ref fe), cd.mro) := PySem.W.kw_special X I hcd ae
  have L2 : PySem.W.Looks (model prog w) hh (specialOnItsLine (.ref x) "__exit__") (some (.ref fx), cd.mro) := PySem.W.kw_special X I hcd ax
  have L3 : PySem.W.Looks (model prog w) hh (bindSpecial (.ref fe) (.ref x)) (.ref fe, [.ref x]) := PySem.W.bind_fn X _ (beq_iff_eq.mp hfe)
  have L4 : PySem.W.Looks (model prog w) hh (bindSpecial (.ref fx) (.ref x)) (.ref fx, [.ref x]) := PySem.W.bind_fn X _ (beq_iff_eq.mp hfx)
  have L5 : PySem.W.Looks (model prog w) hh (aMethodOfAnotherBuiltinTypeStops (.ref fe) cd.mro) () := PySem.W.Looks.of_pure rfl
  have L6 : PySem.W.Looks (model prog w) hh (aMethodOfAnotherBuiltinTypeStops (.ref fx) cd.mro) () := PySem.W.Looks.of_pure rfl
  unfold withItem
  refine wpAny_bind (wpAny_pure ?_)
  refine wpAny_bind (wpAny_standAt ?_)
  simp only [Bool.false_eq_true, if_false]
  kw_lk
  refine wpAny_mono h (fun v s₂ h₂ => ?_) fun _ _ z => z
  kw_lk
  refine wpAny_attempt (PySem.W.kw_held ?_)
  show wpAny _ _ (b v >>= fun _ => bdy) _ _ _
  refine wpAny_bind (wpAny_mono h₂ (fun _ s₃ h₃ => wpAny_mono h₃ (fun f s₄ h₄ => ?_) fun e s' z => ?_) fun _ _ z => z.elim)
  · kw_lk
    refine wpAny_mono h₄ (fun _ s₅ h₅ => ?_) fun _ _ z => z
    kw_lk
    exact h₅
  · obtain ⟨hnb, z⟩ := z
    dsimp only
    refine wpAny_bind (wpAny_mono z (fun _ s2 z => wpAny_bind (wpAny_mono z (fun _ s3 z => wpAny_bind (wpAny_standAt (wpAny_holding ?_))) fun _ _ y => y)) fun _ _ y => y)
    refine wpAny_bind (wpAny_mono z (fun t s4 z => wpAny_bind (wpAny_mono z (fun tb s5 z => wpAny_bind ?_) fun _ _ y => y)) fun _ _ y => y)
    unfold withItem.marked
    refine wpAny_bind (wpAny_run (codeAny_mono z fun r s6 z => ?_) (fun y => hnb (Option.some.inj y)))
    cases r with
    | error e => exact z.elim
    | ok fl =>
      cases fl with
      | ret v =>
        obtain ⟨rfl, z⟩ := z
        refine wpAny_pure (wpAny_bind (wpAny_pure (wpAny_bind (wpAny_pure ?_))))
        rw [if_neg Bool.false_ne_true]
        exact z
      | next => exact z.elim
      | brk => exact z.elim
      | cont => exact z.elim
end
/-! ### the rule -/
/-- what is wished of an exception of the body: __exit__ runs, answers None, on it goes -/
def wWith (spX : Sp) (x : Addr) (Wout : WX) : WX := fun cls d σ H => ∃ c, cls = .ref c ∧ ∀ (e : Addr) (t : V), spX [.ref x, .ref c, .ref e, t] H (fun v H2 => v = .non ∧ Wout cls d σ H2) E0
def dWith (spX : Sp) (x : Addr) (D : Ends) : Ends :=
  { nx := fun σ H => spX [.ref x, .non, .non, .non] H (fun _ H2 => D.nx σ H2) E0, rt := fun r H => spX [.ref x, .non, .non, .non] H (fun _ H2 => D.rt r H2) E0,
    bk := fun σ H => spX [.ref x, .non, .non, .non] H (fun _ H2 => D.bk σ H2) E0, ct := fun σ H => spX [.ref x, .non, .non, .non] H (fun _ H2 => D.ct σ H2) E0 }
def tWith (C : Addr) (spE spX : Sp) (tc : TE) (tb : WX → TS) (i : Nat) (Wout : WX) : TS := fun D σ H => tc σ H fun v H1 => ∃ a dx fs, v = .ref a ∧ H1 a = some (.ins C dx fs) ∧
  spE [.ref a] H1 (fun u H2 => tb (wWith spX a Wout) (dWith spX a D) (σ.set i (some u)) H2) E0
section
variable {X : Cx} {pins : List (Addr × Obj)} {Wout : WX} {spX : Sp} {D : Ends} {u : Value} {s' : Shared} {x fx : Addr} {fdx : FuncData} {j : Nat}
theorem exit_exc {psX : List Str} (hs : X.stack = X.env :: X.outer) (hf : X.env.frame = some X.env.locals) (hex : X.ex = []) (ok : X.Ok) (tk : Takes X Wout) (hr : RoomH j X.A) (Fx : FnW X.prog X.w X.K X.mg X.base CX0 j fx fdx psX spX) (hb : Binds X.K fdx psX [])
    (xx : XE (X.tr (X.pn ++ pins) (ExitX X.prog X.w X.A X.xe X.env x fx (SP X pins D))) (wWith spX x Wout) u s') :
    ExitX X.prog X.w X.A X.xe X.env x fx (SP X pins D) u s' := by
  have hfr : X.A.frames = some (X.env :: X.outer) := by rw [ok.frames, hs]
  obtain ⟨a, B, sI, pins', σ', H', cls, d, rfl, J', nb, up, sky, na, os, ag, c, hcls, hw⟩ := xx
  have J : Inv X pins σ' H' sI := J'.ofTry ok
  have sky' : Sky B (X.env :: X.outer) a (Zc cls d) X.env.locals s'.heap := by rw [← hs]; exact sky
  refine ⟨ref_ne_byPass a, Sky.land Zc.steady hfr hf sky' fun h3 fl3 up3 => ?_⟩
  have J3 : Inv X pins σ' H' { s' with heap := h3 } := J.landed nb fl3.1 (up.trans up3) os ag
  obtain ⟨k1, k2, k3, oe, vs, T, oT, ts, he3, hz, hd, hv1, hnT, hTe, hT, hdT, ht3⟩ := id fl3
  have nT : H' T = none := (J.inGround nb).gone hnT
  have notFr : ∀ (b : Addr) (o : Obj) (fv : Array Value), h3.get? b = some o → o.data = .fields fv → b ∉ frs (X.env :: X.outer) := fun b o fv e dd hm => by
    obtain ⟨_, o', e', hnf⟩ := k3.mem hm
    have eo : o = o' := Option.some.inj (e.symm.trans e')
    rw [← eo] at hnf
    exact hnf _ dd
  have fa := notFr a oe vs he3 hd
  have fT := notFr T oT ts hT hdT
  refine wpAny_typeOf_ref he3 ?_
  rw [hz.1, hcls]
  -- the traceback: the record, or None
  have call : ∀ (t : V) (tv : Value), RelV t tv → codeAny (model X.prog X.w) (X.A.mark (some (.ref a))) (.call (.ref fx) ⟨[.ref x, .ref c, .ref a, tv], []⟩) (fun r s6 => match r with
        | .ok (.ret v) => v = .none ∧ wpAny (model X.prog X.w) X.A (PySem.passOn "with" (.ref a) X.env) (SP X pins D) X.xe s6
        | _ => False) { s' with heap := h3 } := fun t tv rt => by
    have hwt := hw a t
    have lenV : ([Value.ref x, .ref c, .ref a, tv] ++ ([] : List Value)).length = psX.length := Fx.len _ _ _ _ hwt
    have e0 := J3.env0
    have bt := hb { s' with heap := h3 } [.ref x, .ref c, .ref a, tv] J3.kIn lenV
    rw [List.append_nil] at bt
    refine codeAny_mono (Fx.run (X.A.mark (some (.ref a))) X.stack { s' with heap := h3 } H' ⟨[.ref x, .ref c, .ref a, tv], []⟩ [.ref x, .ref c, .ref a, tv] [.ref x, .ref c, .ref a, t] _ _ ⟨hr.dp, hr.un⟩ ⟨e0.frames, e0.mod, e0.bs, e0.bsz, e0.funs, e0.frf, e0.hok, e0.bare⟩ bt (.cons rfl (.cons rfl (.cons rfl (.cons rt .nil)))) hwt) fun r s6 hq => ?_
    cases r with
    | error e => exact False.elim hq
    | ok fl =>
      cases fl with
      | next => exact False.elim hq
      | brk => exact False.elim hq
      | cont => exact False.elim hq
      | ret v =>
        have un : ∃ H6, Un (frs X.stack) [] H' H6 h3 s6.heap ∧ Inv X pins σ' H6 s6 ∧ v = .none ∧ Wout cls d σ' H6 := by
          obtain ⟨v', H6, os6, bare6, un6, hok6, rv, ev, qw⟩ := id hq
          subst ev
          obtain ⟨hh, g, dd, tt, os'⟩ := s6
          obtain rfl : os' = s'.os := os6
          exact ⟨H6, un6, Inv.call (s := { s' with heap := h3 }) (h' := hh) (g' := g) (d' := dd) (t' := tt) (ch := []) J3 un6 hok6 bare6 (fun b z => absurd z (by simp)), rv, qw⟩
        obtain ⟨H6, un6, J6, ev, q6⟩ := un
        refine ⟨ev, ?_⟩
        have ga : s6.heap.get? a = some oe := un6.keep a oe he3 na (by rw [hs]; exact fa) (by simp)
        have gT : s6.heap.get? T = some oT := un6.keep T oT hT nT (by rw [hs]; exact fT) (by simp)
        have na6 : H6 a = none := un6.free a oe he3 na (by simp)
        have nT6 : H6 T = none := un6.free T oT hT nT (by simp)
        have far : ∀ b o, sI.heap.get? b = some o → b ≠ a ∧ b ≠ T := fun b o e => by
          by_cases hb : b ∈ frs X.stack
          · rw [hs] at hb
            exact ⟨fun z => fa (by rw [← z]; exact hb), fun z => fT (by rw [← z]; exact hb)⟩
          · have q := nb b o e hb
            exact ⟨fun z => by
              rw [z, k2] at q
              exact (nomatch q), fun z => by
              rw [z, hnT] at q
              cases q⟩
        have far0 : ∀ b o, X.s_0.heap.get? b = some o → b ≠ a ∧ b ≠ T := fun b o e => by
          obtain ⟨o', q⟩ := J.base.there b o e (by rw [hex]; simp)
          exact far b o' q
        have farP : ∀ p ∈ X.pn ++ pins, p.1 ≠ a ∧ p.1 ≠ T := fun p hp => far p.1 p.2 (J.pin p hp).1
        obtain ⟨G, g1, g2⟩ := restrict s6.heap fun b => !(decide (b = a) || decide (b = T))
        have gIn : ∀ b o, G.get? b = some o → s6.heap.get? b = some o ∧ b ≠ a ∧ b ≠ T := fun b o e => by
          cases q : (!(decide (b = a) || decide (b = T))) with
          | false =>
            rw [g2 b q] at e
            cases e
          | true =>
            rw [g1 b q] at e
            simp only [Bool.not_eq_true', Bool.or_eq_false_iff, decide_eq_false_iff_not] at q
            exact ⟨e, q.1, q.2⟩
        have gOf : ∀ b o, b ≠ a → b ≠ T → s6.heap.get? b = some o → G.get? b = some o := fun b o h1 h2 e => by
          rw [g1 b (by simp [h1, h2])]
          exact e
        have I6 : Inv X pins σ' H6 { s6 with heap := G } := J6.less (fun b o e => (gIn b o e).1) gOf ⟨oe, vs, ga, hd⟩ ⟨oT, ts, gT, hdT⟩ na6 nT6 far0 farP
        have B6in : ∀ b o, (PySem.W.hideAll G (frs X.stack)).get? b = some o → s6.heap.get? b = some o := fun b o e => (gIn b o (PySem.W.of_hideAll _ e)).1
        have Bno : ∀ b, (b = a ∨ b = T) → (PySem.W.hideAll G (frs X.stack)).get? b = none := fun b hb => by
          cases q : (PySem.W.hideAll G (frs X.stack)).get? b with
          | none => rfl
          | some o =>
            obtain ⟨_, n1, n2⟩ := gIn b o (PySem.W.of_hideAll _ q)
            rcases hb with z | z
            · exact absurd z n1
            · exact absurd z n2
        have fl6 : HandSPX.FlyingZ (PySem.W.hideAll G (frs X.stack)) (X.env :: X.outer) a (Zc cls d) s6.heap := by
          refine ⟨B6in, Bno a (.inl rfl), ?_, oe, vs, T, oT, ts, ga, hz, hd, hv1, Bno T (.inr rfl), hTe, gT, hdT, ht3⟩
          have ff := funFrames_none (B := PySem.W.hideAll G (frs X.stack)) J6.stack fun b hb => PySem.W.hideAll_none _ hb
          rw [← hs]
          exact ff
        unfold PySem.passOn
        refine wpAny_bind (wpAny_field ga hd hv1 ?_)
        rw [if_neg (show ¬ ((Value.ref T == Value.none) = true) from by simp)]
        have goOn : wpAny (model X.prog X.w) X.A (setFlight (.ref a) X.env.frame) (fun _ s7 => wpAny (model X.prog X.w) X.A (throw (.ref a) : Sem Flow) (SP X pins D) X.xe s7) X.xe s6 := by
          rw [hf]
          refine HandSPX.setFlight_upZ fl6 fun h7 hh7 up7 => wpAny_throw (tk _ _ ?_)
          refine ⟨a, PySem.W.hideAll G (frs X.stack), { s6 with heap := G }, pins, σ', H6, cls, d, rfl, I6, fun b o e hb => PySem.W.hideAll_get _ e hb, ?_, .inr (.inr (by rw [← hs] at hh7; exact hh7)), na6, rfl, J6.bare, q6⟩
          exact Heap.UpToSlots.trans (Heap.UpToSlots.of_keeps fun b o e => (gIn b o e).1) up7
        first
          | exact wpAny_bind (wpAny_pure (wpAny_bind goOn))
          | exact wpAny_bind goOn
  unfold tracebackOf
  refine wpAny_bind (wpAny_field he3 hd hv1 ?_)
  have h1s : 1 < ts.size := by
    have := (Array.getElem?_eq_some_iff.mp ht3).1
    omega
  refine wpAny_bind (wpAny_field hT hdT (Array.getElem?_eq_getElem h1s) ?_)
  by_cases hn : (ts[1] == Value.none) = true
  · rw [if_pos hn]
    exact wpAny_pure (call .non .none rfl)
  · rw [if_neg hn]
    exact wpAny_pure (call (.ref T) (.ref T) rfl)
/-- with C(..) as y: body -/
theorem ps_withX {C : Addr} {k : Nat} {ctx : Expr} {y : Str} {py pos : Pos} {body : List Stmt} {tc : TE} {tb : WX → TS} {spE : Sp} {psE psX : List Str} {i : Nat} (hs : X.stack = X.env :: X.outer) (hf : X.env.frame = some X.env.locals) (hex : X.ex = []) (tk : Takes X Wout) (hr : Room k X.A) (c : Cls X.K C)
    (hc : PE X ctx tc) (GE : Mf X.prog X.w X.K X.mg X.base CX0 j C "__enter__" psE spE) (GX : MfW X.prog X.w X.K X.mg X.base j C "__exit__" psX spX) (hj : j ≤ k) (hN : X.N.Nodup) (hi : X.N[i]? = some y) (hl : Loc X.env.scope y)
    (hb : ∀ (W : WX) (pn : List (Addr × Obj)) (xe : Value → Shared → Prop), Takes (X.tr pn xe) W → PSs (X.tr pn xe) body (tb W))
    (hfn : X.fn y = true ∨ X.env.scope.names.lookup y = some .local := by first | exact .inl rfl | exact .inr rfl | assumption) : PS X (.With [⟨ctx, some (.Name y py)⟩] body pos) (tWith C spE spX tc tb i Wout) := by
  obtain ⟨fe, fde, mE, bE, FE⟩ := GE
  obtain ⟨fx, fdx, mX, bX, FX⟩ := GX
  refine ⟨fun pins s σ H D I h => PySem.W.kw_execN (thn (hc.run pins s σ H _ I h) fun u s1 ⟨v, H1, I1, r1, a, dx, fs, ev, ea, q1⟩ => ?_)⟩
  subst ev
  obtain rfl : u = Value.ref a := r1
  obtain ⟨mA, O, _⟩ := ins_get I1.hok ea
  obtain ⟨od, J, _⟩ := O.look
  have ok := I1.ok
  refine kw_coreX (K := X.K) (C := C) (fe := fe) (fx := fx) I1.kIn J mE.at_ mE.fn mX.at_ mX.fn ?_
  have enter := run_fn (us := [.ref a]) (vs := [.ref a]) (E := E0) FE (hr.mono hj) bE .nil pass0 I1 (.cons rfl .nil) q1
  have runX : ∀ {σ3 : L2.St} {H3 : Hp} {s3 : Shared} {R : VK} {xe : Value → Shared → Prop}, Inv X pins σ3 H3 s3 → spX [.ref a, .non, .non, .non] H3 R E0 → wpAny (model X.prog X.w) X.A (call (.ref fx) [.ref a, .none, .none, .none]) (EP X pins σ3 R) xe s3 := fun {σ3 H3 s3 R xe} I3 q3 => by
    have e0 := I3.env0
    have lenV : ([Value.ref a, .none, .none, .none] ++ ([] : List Value)).length = psX.length := FX.len _ _ _ _ q3
    have bt := bX s3 [.ref a, .none, .none, .none] I3.kIn lenV
    rw [List.append_nil] at bt
    have hr' := roomH_of (hr.mono hj)
    refine wpAny_call (codeAny_mono (FX.run X.A X.stack s3 H3 ⟨[.ref a, .none, .none, .none], []⟩ [.ref a, .none, .none, .none] [.ref a, .non, .non, .non] _ _ hr' e0 bt (.cons rfl (.cons rfl (.cons rfl (.cons rfl .nil)))) q3) fun r s4 hq => ?_)
    cases r with
    | error e => exact False.elim hq
    | ok fl =>
      cases fl with
      | ret u => exact I3.after hq
      | next => exact False.elim hq
      | brk => exact False.elim hq
      | cont => exact False.elim hq
  refine wpAny_mono enter (fun v s2 hv => ?_) fun _ _ z => z
  obtain ⟨v', H2, I2, r2, q2⟩ := hv
  refine wpAny_assign_Name (store_ok I2 hN hi hl r2 (fun s3 I3 => ?_) hfn)
  refine wpAny_mono ((hb (wWith spX a Wout) (X.pn ++ pins) (ExitX X.prog X.w X.A X.xe X.env a fx (SP X pins D)) (fun u s' xx => exit_exc hs hf hex ok tk (roomH_of (hr.mono hj)) FX bX xx)).run [] s3 _ H2 (dWith spX a D) (I3.toTry _) q2) (fun f s4 hsp => ?_) (fun _ _ z => z)
  cases f with
  | next =>
    obtain ⟨σ5, H5, J5, q5⟩ := hsp
    refine wpAny_mono (runX (J5.ofTry ok) q5) (fun _ s6 ⟨v6, H6, I6, r6, q6⟩ => ⟨σ5, H6, I6, q6⟩) fun _ _ z => z
  | brk =>
    obtain ⟨σ5, H5, J5, q5⟩ := hsp
    refine wpAny_mono (runX (J5.ofTry ok) q5) (fun _ s6 ⟨v6, H6, I6, r6, q6⟩ => ⟨σ5, H6, I6, q6⟩) fun _ _ z => z
  | cont =>
    obtain ⟨σ5, H5, J5, q5⟩ := hsp
    refine wpAny_mono (runX (J5.ofTry ok) q5) (fun _ s6 ⟨v6, H6, I6, r6, q6⟩ => ⟨σ5, H6, I6, q6⟩) fun _ _ z => z
  | ret u =>
    obtain ⟨v5, σ5, H5, J5, r5, q5⟩ := hsp
    refine wpAny_mono (runX (J5.ofTry ok) q5) (fun _ s6 ⟨v6, H6, I6, r6, q6⟩ => ⟨v5, σ5, H6, I6, r5, q6⟩) fun _ _ z => z
end
end G3
end

/-! ## G3Lam -/
section
set_option Elab.async false
set_option linter.all false
set_option maxRecDepth 100000
set_option maxHeartbeats 4000000
/-! Lambdas two deep: the code objects that are made while the law runs, and their own tables. -/
namespace G3
open PySem PySem.Spec PyProof.Rows L2
open LamX (CodeO TabS ExtN TabB LamS lamEnv lamCx lam_start2 among_app codeO_ne run_ofS)

/-! ### tables -/
/-- the object at c is a code object of the name q whose table stands at P -/
def CodeP (c P : Addr) (q : Str) : HO := .ext fun h => PySem.W.CodeHd h c P ∧ ∃ (oc : Obj) (vs : Array Value) (t : Tok), h.get? c = some oc ∧ oc.data = .fields vs ∧ vs[1]? = some (.str q t)
theorem codeP_ne {c P : Addr} {q : Str} (ps : Array Value) : CodeP c P q ≠ .tbl ps := fun z => by
  unfold CodeP at z
  cases z
/-- the table at P: each code object in it bears the name q and has a table of its own, whose code objects bear the name q2 -/
def TabS2 (H : Hp) (P : Addr) (q q2 : Str) : Prop := ∃ ps : Array Value, H P = some (.tbl ps) ∧ TriplesOk ps.toList ∧ ∀ (pos : Pos) (cv : Value), codeAmong pos ps.toList = some cv → ∃ c Pc, cv = .ref c ∧ H c = some (CodeP c Pc q) ∧ TabS H Pc q2 ∧ Pc ≠ P
theorem codeP_at {P : Program} {w : World} {H : Hp} {h : Heap} {c Pc : Addr} {q : Str} (hok : HOk P w H h) (e : H c = some (CodeP c Pc q)) : PySem.W.CodeHd h c Pc ∧ h.CodeRec (.ref c) q := by
  obtain ⟨⟨h1, oc, vs, t, e1, e2, e3⟩, _, _⟩ := hok c _ e
  exact ⟨h1, c, oc, vs, t, rfl, e1, e2, e3⟩
theorem codeO_at {P : Program} {w : World} {H : Hp} {h : Heap} {c : Addr} {q : Str} (hok : HOk P w H h) (e : H c = some (CodeO c q)) : h.CodeRec (.ref c) q := by
  obtain ⟨⟨oc, vs, t, e1, e2, e3⟩, _, _⟩ := hok c _ e
  exact ⟨c, oc, vs, t, rfl, e1, e2, e3⟩
/-- one table grows by a code object of that name -/
theorem TabS.grow {H : Hp} {T P c : Addr} {q : Str} {ps : Array Value} {pos : Pos} (t : TabS H T q) (hP : H P = some (.tbl ps)) (nC : H c = none) (ht : TriplesOk ps.toList) (ha : ∀ (pos : Pos) (cv : Value), codeAmong pos ps.toList = some cv → ∃ c, cv = .ref c ∧ H c = some (CodeO c q)) :
    TabS (upd (upd H P (.tbl (ps ++ #[rawInt pos.line, rawInt pos.col, .ref c]))) c (CodeO c q)) T q := by
  have hE : ∀ b o, H b = some o → (∀ ps, o ≠ .tbl ps) → upd (upd H P (.tbl (ps ++ #[rawInt pos.line, rawInt pos.col, .ref c]))) c (CodeO c q) b = some o := fun b o e n => by
    rw [upd_ne (ne_of_none e nC), upd_ne (fun z => n ps (Option.some.inj (e.symm.trans (by rw [z]; exact hP))))]
    exact e
  have eL : (ps ++ #[rawInt pos.line, rawInt pos.col, .ref c]).toList = ps.toList ++ [rawInt pos.line, rawInt pos.col, .ref c] := by simp
  by_cases hb : T = P
  · rw [hb]
    refine ⟨_, by rw [upd_ne (ne_of_none hP nC), upd_same], by rw [eL]; exact PySem.TriplesOk_snoc _ _ _ _ ht, fun p' cv hcv => ?_⟩
    rw [eL] at hcv
    rcases among_app _ ht hcv with z | z
    · obtain ⟨c0, e1, e2⟩ := ha p' cv z
      exact ⟨c0, e1, hE _ _ e2 codeO_ne⟩
    · exact ⟨c, z, upd_same⟩
  · obtain ⟨ps', a1, a2, a3⟩ := t
    refine ⟨ps', by rw [upd_ne (ne_of_none a1 nC), upd_ne hb]; exact a1, a2, fun p' cv hcv => ?_⟩
    obtain ⟨c0, e1, e2⟩ := a3 p' cv hcv
    exact ⟨c0, e1, hE _ _ e2 codeO_ne⟩
theorem TabS.extN {H H' : Hp} {T : Addr} {q : Str} (t : TabS H T q) (e : ExtN H H') (hT : H' T = H T) : TabS H' T q := by
  obtain ⟨ps, a1, a2, a3⟩ := t
  refine ⟨ps, hT.trans a1, a2, fun p' cv hcv => ?_⟩
  obtain ⟨c0, e1, e2⟩ := a3 p' cv hcv
  exact ⟨c0, e1, e _ _ e2 codeO_ne⟩
/-- all but what stands at some addresses stays -/
theorem TabS.keep {H H' : Hp} {T : Addr} {q : Str} (t : TabS H T q) (e : ∀ b o, H b = some o → (∀ xs, o ≠ .lst xs) → (∀ C dx fs, o ≠ .ins C dx fs) → H' b = some o) : TabS H' T q := by
  obtain ⟨ps, a1, a2, a3⟩ := t
  refine ⟨ps, e _ _ a1 (fun _ z => nomatch z) (fun _ _ _ z => nomatch z), a2, fun p' cv hcv => ?_⟩
  obtain ⟨c0, e1, e2⟩ := a3 p' cv hcv
  refine ⟨c0, e1, e _ _ e2 (fun _ z => ?_) (fun _ _ _ z => ?_)⟩ <;> (unfold CodeO at z; cases z)
theorem TabS2.keep {H H' : Hp} {T : Addr} {q q2 : Str} (t : TabS2 H T q q2) (e : ∀ b o, H b = some o → (∀ xs, o ≠ .lst xs) → (∀ C dx fs, o ≠ .ins C dx fs) → H' b = some o) : TabS2 H' T q q2 := by
  obtain ⟨ps, a1, a2, a3⟩ := t
  refine ⟨ps, e _ _ a1 (fun _ z => nomatch z) (fun _ _ _ z => nomatch z), a2, fun p' cv hcv => ?_⟩
  obtain ⟨c0, Pc, e1, e2, e3, e4⟩ := a3 p' cv hcv
  refine ⟨c0, Pc, e1, e _ _ e2 (fun _ z => ?_) (fun _ _ _ z => ?_), TabS.keep e3 e, e4⟩ <;> (unfold CodeP at z; cases z)
theorem TabS2.same {H H' : Hp} {T : Addr} {q q2 : Str} (t : TabS2 H T q q2) (e : Same H H') : TabS2 H' T q q2 := t.keep fun b o h _ _ => e b o h
/-- a table one deeper grows -/
theorem TabS2.grow {H : Hp} {T P c : Addr} {q q2 : Str} {ps : Array Value} {pos : Pos} (t : TabS2 H T q q2) (hP : H P = some (.tbl ps)) (nP : P ≠ T) (nC : H c = none) (ht : TriplesOk ps.toList) (ha : ∀ (pos : Pos) (cv : Value), codeAmong pos ps.toList = some cv → ∃ c, cv = .ref c ∧ H c = some (CodeO c q2)) :
    TabS2 (upd (upd H P (.tbl (ps ++ #[rawInt pos.line, rawInt pos.col, .ref c]))) c (CodeO c q2)) T q q2 := by
  have hE : ∀ b o, H b = some o → (∀ ps, o ≠ .tbl ps) → upd (upd H P (.tbl (ps ++ #[rawInt pos.line, rawInt pos.col, .ref c]))) c (CodeO c q2) b = some o := fun b o e n => by
    rw [upd_ne (ne_of_none e nC), upd_ne (fun z => n ps (Option.some.inj (e.symm.trans (by rw [z]; exact hP))))]
    exact e
  obtain ⟨ps', a1, a2, a3⟩ := t
  refine ⟨ps', by rw [upd_ne (ne_of_none a1 nC), upd_ne nP.symm]; exact a1, a2, fun p' cv hcv => ?_⟩
  obtain ⟨c0, Pc, e1, e2, e3, e4⟩ := a3 p' cv hcv
  exact ⟨c0, Pc, e1, hE _ _ e2 codeP_ne, TabS.grow e3 hP nC ht ha, e4⟩

/-! ### a lambda is made -/
section
variable {M : Model} {A : Around} {E : Value → Shared → Prop} {s : Shared} {name qual : Str} {params : Arguments} {body : Expr} {scope : Scope} {env : Env} {c P : Addr} {ps : Array Value} {pos : Pos} {firstLine : Nat} {mg : Str → Option Value}
  {clos : List (Str × Addr)} {Q : Value → Shared → Prop}
theorem make_sub (hcl : closureFor scope env = pure clos) (hge0 : env.globals = mainGlobals) (hg : s.heap.Ns mainGlobals mg) (hcode : env.code = .ref c) (C : PySem.W.CodeHd s.heap c P) (hP : s.heap.get? P = some (PySem.W.tabObj ps)) (ht : TriplesOk ps.toList)
    (hnf : codeAmong pos ps.toList = none) (hgP : mainGlobals ≠ P) (hb : s.heap.BuiltinsAt mg P)
    (h : ∀ c' P' ctv h' tk, Heap.ExtBut P s.heap h' → s.heap.objs.size ≤ c' → c' < h'.objs.size → s.heap.objs.size ≤ P' → h'.CodeRec (.ref c') qual → PySem.W.CodeHd h' c' P' → h'.get? P' = some (PySem.W.tabObj #[]) → h'.get? P = some (PySem.W.tabObj (ps ++ #[rawInt pos.line, rawInt pos.col, .ref c'])) →
      Q (.ref h'.objs.size) { s with heap := h'.push (PySem.W.kla_obj name qual params body scope clos ((mg "__name__").getD .none) c' ctv), toks := tk }) :
    wpAny M A (makeFunction name qual params (.expr body) scope env [] [] [] pos firstLine) Q E s := by
  rw [makeFunction_eq]
  simp only [List.zip_nil_right, List.filterMap_nil, List.isEmpty_nil, if_true, pure_bind]
  obtain ⟨bm, ob, hbm, hne0, _, hneP, hbo, hcls, hdict, hdata⟩ := hb
  unfold makeTail
  rw [hcl, hge0]
  refine wpAny_bind (wpAny_pure ?_)
  cases clos with
  | nil =>
    simp only [List.isEmpty_nil, if_true]
    refine wpAny_bind (wpAny_pure ?_)
    refine wpAny_bind (wpAny_functionCodeX hcode (C.code hP ht) (C.tab hP) hnf fun c' h' tk hx hge hlt _ hrec htb hsub => ?_)
    obtain ⟨P', g1, g2, g3⟩ := hsub
    have hg' := hg.extBut hx hgP
    refine wpAny_bind (wpAny_builtinsFor hg' hbm hne0 (hx _ _ hneP hbo) hcls hdict hdata ?_)
    refine wpAny_bind (wpAny_nsGet hg' ?_)
    exact wpAny_bind (wpAny_pure (wpAny_newObj_type (h c' P' .none h' tk hx hge hlt g1 hrec (.of g2 g3) g3.2 htb.2) (by size_fits)))
  | cons q r =>
    simp only [List.isEmpty_cons, Bool.false_eq_true, if_false]
    refine wpAny_bind (wpAny_newTextTuple ?_)
    refine wpAny_bind (wpAny_functionCodeX hcode ((C.keeps fun b o e => Heap.get?_push_of_some _ e).code (Heap.get?_push_of_some _ hP) ht) ((C.keeps fun b o e => Heap.get?_push_of_some _ e).tab (Heap.get?_push_of_some _ hP)) hnf fun c' h' tk hx hge hlt _ hrec htb hsub => ?_)
    obtain ⟨P', g1, g2, g3⟩ := hsub
    have hg' := (hg.push _).extBut hx hgP
    have hx' : Heap.ExtBut P s.heap h' := fun b o hb' e => hx b o hb' (Heap.get?_push_of_some _ e)
    have up : ∀ n, (s.heap.push { cls := .type "tuple", dict := none, data := .seq ((((q :: r).mergeSort fun a b => a.1.cps.toList ≤ b.1.cps.toList).map (Value.ref ·.2))).toArray }).objs.size ≤ n → s.heap.objs.size ≤ n := fun n z => Nat.le_trans (by rw [Heap.size_push]; omega) z
    refine wpAny_bind (wpAny_builtinsFor hg' hbm hne0 (hx' _ _ hneP hbo) hcls hdict hdata ?_)
    refine wpAny_bind (wpAny_nsGet hg' ?_)
    exact wpAny_bind (wpAny_pure (wpAny_newObj_type (h c' P' _ h' tk hx' (up _ hge) hlt (up _ g1) hrec (.of g2 g3) g3.2 htb.2) (by size_fits)))
end
section
variable {X : Cx} {pins : List (Addr × Obj)} {σ : L2.St} {H : Hp} {s : Shared}
/-- the table is written; the code object at c and its own empty table at T are new -/
theorem inv_table2 {P c T : Addr} {q : Str} {ps more : Array Value} {h' : Heap} {t' : Nat} (I : Inv X pins σ H s) (hP : H P = some (.tbl ps)) (k : ∀ b o, b ≠ P → s.heap.get? b = some o → h'.get? b = some o)
    (hm : h'.get? P = some { cls := .none, data := .fields (ps ++ more) }) (hc : s.heap.objs.size ≤ c) (hT : s.heap.objs.size ≤ T) (hcd : PySem.W.CodeHd h' c T) (ho : ∃ (oc : Obj) (vs : Array Value) (t : Tok), h'.get? c = some oc ∧ oc.data = .fields vs ∧ vs[1]? = some (.str q t))
    (hTe : h'.get? T = some (PySem.W.tabObj #[])) :
    Inv X pins σ (upd (upd (upd H P (.tbl (ps ++ more))) T (.tbl #[])) c (CodeP c T q)) { s with heap := h', toks := t' } := by
  have nC : H c = none := I.hok.fresh hc
  have nT : H T = none := I.hok.fresh hT
  have ncT : c ≠ T := by
    obtain ⟨_, _, _, _, _, _, _, _, _, _, _, _, _, _, _, _, _, _, e⟩ := hcd
    exact e
  have nPc : P ≠ c := ne_of_none hP nC
  have nPT : P ≠ T := ne_of_none hP nT
  obtain ⟨G, hG⟩ : ∃ G, G = upd (upd (upd H P (.tbl (ps ++ more))) T (.tbl #[])) c (CodeP c T q) := ⟨_, rfl⟩
  have at_ : ∀ b, b ≠ P → b ≠ c → b ≠ T → G b = H b := fun b h1 h2 h3 => by rw [hG, upd_ne h2, upd_ne h3, upd_ne h1]
  have atP : G P = some (.tbl (ps ++ more)) := by rw [hG, upd_ne nPc, upd_ne nPT, upd_same]
  have atT : G T = some (.tbl #[]) := by rw [hG, upd_ne ncT.symm, upd_same]
  have atC : G c = some (CodeP c T q) := by rw [hG, upd_same]
  rw [← hG]
  have nP : ∀ b u, H b = some u → (∀ q, u ≠ .tbl q) → b ≠ P := fun b u e q z => by
    rw [z, hP] at e
    exact q ps (Option.some.inj e).symm
  have nN : ∀ b, H b = none → b ≠ P := fun b e z => by
    rw [z, hP] at e
    cases e
  have lt' : ∀ b o, s.heap.get? b = some o → b ≠ c ∧ b ≠ T := fun b o e => ⟨fun z => by
    rw [z] at e
    exact Nat.lt_irrefl _ (Nat.lt_of_lt_of_le (Heap.lt_size e) hc), fun z => by
    rw [z] at e
    exact Nat.lt_irrefl _ (Nat.lt_of_lt_of_le (Heap.lt_size e) hT)⟩
  have sm : ∀ b u, H b = some u → b ≠ c ∧ b ≠ T := fun b u e => ⟨ne_of_none e nC, ne_of_none e nT⟩
  refine I.step (g' := s.gens) (d' := s.drawn) (ch := []) (fun b hb => absurd hb (by simp)) (fun b o _ _ _ e n => k b o (nN b n) e) (fun b o _ _ _ e n => ⟨o.slots, k b o (nN b n) e⟩)
    (fun b o _ e n => by rw [at_ b (nN b n) (lt' b o e).1 (lt' b o e).2]; exact n) (fun b o _ e => ?_) (fun b xs e => by rw [at_ b (nP b _ e (fun q z => by cases z)) (sm b _ e).1 (sm b _ e).2]; exact e) (fun b o u e => by rw [at_ b (nP b _ e (fun q z => by cases z)) (sm b _ e).1 (sm b _ e).2]; exact e) (fun b qs e => ?_) (fun m hn => ?_) (fun b u e => ?_) I.bare
  · by_cases hb : b = P
    · rw [hb]
      exact ⟨_, hm⟩
    · exact ⟨o, k b o hb e⟩
  · by_cases hb : b = P
    · rw [hb, hP] at e
      cases e
      rw [hb, atP]
      exact ⟨more, rfl⟩
    · rw [at_ b hb (sm b _ e).1 (sm b _ e).2, e]
      exact ⟨#[], by simp⟩
  · obtain ⟨ob, es, ep, ho, r⟩ := hn
    exact ⟨ob, es, ep, k _ ob (nN _ I.free) ho, r⟩
  · by_cases hb : b = c
    · rw [hb, atC] at e
      cases e
      rw [hb]
      obtain ⟨oc, vs, t, e1, e2, e3⟩ := ho
      refine ⟨⟨hcd, oc, vs, t, e1, e2, e3⟩, ⟨oc, e1⟩, fun h1 h2 ⟨⟨o, us, file, tf, flags, tg, inF, text, tt, f1, f2⟩, oc, vs, t, a, b, c⟩ st => ⟨⟨o, us, file, tf, flags, tg, inF, text, tt, st _ f1, f2⟩, oc, vs, t, st _ a, b, c⟩⟩
    · by_cases hb2 : b = P
      · rw [hb2, atP] at e
        cases e
        rw [hb2]
        exact hm
      · by_cases hb3 : b = T
        · rw [hb3, atT] at e
          cases e
          rw [hb3]
          exact hTe
        · rw [at_ b hb2 hb hb3] at e
          refine (I.hok b u e).stay (fun d v hd q => k d v ?_ q) (fun d q => by rw [at_ d (nP d _ q (fun q z => by cases z)) (sm d _ q).1 (sm d _ q).2]; exact q) fun d xs q => by rw [at_ d (nP d _ q (fun q z => by cases z)) (sm d _ q).1 (sm d _ q).2]; exact q
          rcases hd with z | z
          · rw [z]
            exact hb2
          · exact nP d _ z (fun q z => by cases z)
/-- what is kept where a lambda is made -/
theorem ext_two {P c T : Addr} {q : Str} {ps more : Array Value} (hP : H P = some (.tbl ps)) (nC : H c = none) (nT : H T = none) : ExtN H (upd (upd (upd H P (.tbl (ps ++ more))) T (.tbl #[])) c (CodeP c T q)) := fun b o e n => by
  rw [upd_ne (ne_of_none e nC), upd_ne (ne_of_none e nT), upd_ne (fun z => n ps (Option.some.inj (e.symm.trans (by rw [z]; exact hP))))]
  exact e
/-- a lambda made in a def of the module: its code object is new, or found in the table -/
theorem lam_outer {c P : Addr} {q2 : Str} {params : Arguments} {body : Expr} {scope : Scope} {pos : Pos} {E : Value → Shared → Prop} {Q : Value → Shared → Prop} (I : Inv X pins σ H s) (TB : TabB X.base X.mg c P) (hcode : X.env.code = .ref c)
    (hT : TabS2 H P (X.env.qual ++ "<lambda>") q2) (hdef : defaultsOf params X.env = ([], [])) (hfree : ∀ y ∈ scope.names, y.2 = .free → ∃ c, X.env.cells.lookup y.1 = some c)
    (h : ∀ (f c' Pc : Addr) (pm ctv : Value) (H1 : Hp) (s' : Shared), Inv X pins σ H1 s' → ExtN H H1 → TabS2 H1 P (X.env.qual ++ "<lambda>") q2 →
      s'.heap.get? f = some (PySem.W.kla_obj "<lambda>" (X.env.qual ++ "<lambda>") params body scope (cloFrom X.env.cells scope.names []) pm c' ctv) → H1 f = none → f ∉ frs X.stack → H1 c' = some (CodeP c' Pc (X.env.qual ++ "<lambda>")) → TabS H1 Pc q2 → Pc ≠ P → Q (.ref f) s') :
    wpAny (model X.prog X.w) X.A (eval (.Lambda params body scope pos) X.env) Q E s := by
  obtain ⟨ps, hP, ht, ha⟩ := id hT
  refine PySem.W.kla_eval hdef ?_
  have bP : s.heap.BuiltinsAt X.mg P := TB.bm.keeps I.bk
  have hP' : s.heap.get? P = some { cls := .none, data := .fields ps } := I.hok P _ hP
  have nofr : ∀ f, s.heap.objs.size ≤ f → f ∉ frs X.stack := fun f hf z => by
    rcases List.mem_cons.mp (I.stkSub _ z) with e | e
    · have h1 := I.lt
      rw [← e] at h1
      exact Nat.lt_irrefl _ (Nat.lt_of_lt_of_le h1 hf)
    · exact I.nofs hf e
  cases hc : codeAmong pos ps.toList with
  | none =>
    refine make_sub (mg := X.mg) (c := c) (P := P) (ps := ps) (closure_ok hfree) I.ok.glob (I.mod.glob.keeps I.bk) hcode (TB.code.keeps I.bk) hP' ht hc TB.gP bP fun c' Pc ctv h' tk hx hge hlt hPc hrec hcd hsub htb => ?_
    obtain ⟨c2, oc, vs, t, e2, hoc, hd, hv⟩ := hrec
    cases e2
    have hsz : s.heap.objs.size ≤ h'.objs.size := Nat.le_trans hge (Nat.le_of_lt hlt)
    have nC : H c' = none := I.hok.fresh hge
    have nT : H Pc = none := I.hok.fresh hPc
    have ncT : c' ≠ Pc := by
      obtain ⟨_, _, _, _, _, _, _, _, _, _, _, _, _, _, _, _, _, _, e⟩ := id hcd
      exact e
    have I1 := inv_table2 (t' := tk) (more := #[rawInt pos.line, rawInt pos.col, .ref c']) (h' := h'.push (PySem.W.kla_obj "<lambda>" (X.env.qual ++ "<lambda>") params body scope (cloFrom X.env.cells scope.names []) ((X.mg "__name__").getD .none) c' ctv)) I hP
      (fun b o hb e => Heap.get?_push_of_some _ (hx b o hb e)) (Heap.get?_push_of_some _ htb) hge hPc (hcd.keeps fun b o e => Heap.get?_push_of_some _ e) ⟨oc, vs, t, Heap.get?_push_of_some _ hoc, hd, hv⟩ (Heap.get?_push_of_some _ hsub)
    have hE := ext_two (q := X.env.qual ++ "<lambda>") (more := #[rawInt pos.line, rawInt pos.col, .ref c']) hP nC nT
    have eL : (ps ++ #[rawInt pos.line, rawInt pos.col, .ref c']).toList = ps.toList ++ [rawInt pos.line, rawInt pos.col, .ref c'] := by simp
    have nPP : Pc ≠ P := (ne_of_none hP nT).symm
    have sub : TabS (upd (upd (upd H P (.tbl (ps ++ #[rawInt pos.line, rawInt pos.col, .ref c']))) Pc (.tbl #[])) c' (CodeP c' Pc (X.env.qual ++ "<lambda>"))) Pc q2 := .nil (by rw [upd_ne ncT.symm, upd_same])
    refine h h'.objs.size c' Pc ((X.mg "__name__").getD .none) ctv _ _ I1 hE ?_ (Heap.get?_push_size _ rfl) ?_ (nofr _ hsz) upd_same sub nPP
    · refine ⟨_, by rw [upd_ne (ne_of_none hP nC), upd_ne nPP.symm, upd_same], by rw [eL]; exact PySem.TriplesOk_snoc _ _ _ _ ht, fun p' cv hcv => ?_⟩
      rw [eL] at hcv
      rcases among_app _ ht hcv with z | z
      · obtain ⟨c0, P0, e1, e2, e3, e4⟩ := ha p' cv z
        obtain ⟨p0, q0, _, _⟩ := id e3
        exact ⟨c0, P0, e1, hE _ _ e2 codeP_ne, TabS.extN e3 hE (by rw [upd_ne (ne_of_none q0 nC), upd_ne (ne_of_none q0 nT), upd_ne e4]), e4⟩
      · exact ⟨c', Pc, z, upd_same, sub, nPP⟩
    · have n1 : h'.objs.size ≠ c' := Nat.ne_of_gt hlt
      have n2 : h'.objs.size ≠ P := Nat.ne_of_gt (Nat.lt_of_lt_of_le (Heap.lt_size hP') hsz)
      have n3 : h'.objs.size ≠ Pc := Nat.ne_of_gt (Heap.lt_size hsub)
      rw [upd_ne n1, upd_ne n3, upd_ne n2]
      exact I.hok.fresh hsz
  | some cv =>
    obtain ⟨c', Pc, e, hco, hs, hne⟩ := ha pos cv hc
    subst e
    refine PySem.W.kla_makeFunctionHit (mg := X.mg) (c := c) (P := P) (ps := ps) (closure_ok hfree) I.ok.glob (I.mod.glob.keeps I.bk) hcode (TB.code.keeps I.bk) hP' ht hc bP fun ctv h' tk hx hsz => ?_
    have I1 : Inv X pins σ H { s with heap := h'.push (PySem.W.kla_obj "<lambda>" (X.env.qual ++ "<lambda>") params body scope (cloFrom X.env.cells scope.names []) ((X.mg "__name__").getD .none) c' ctv), toks := tk } := I.kept fun b o e => Heap.get?_push_of_some _ (hx b o e)
    exact h h'.objs.size c' Pc ((X.mg "__name__").getD .none) ctv H _ I1 (ExtN.refl H) hT (Heap.get?_push_size _ rfl) (I.hok.fresh hsz) (nofr _ hsz) hco hs hne
/-- a lambda made within a lambda, whose code object was made while the law runs -/
theorem lam_inner {c0 P0 c Pc : Addr} {q q1 : Str} {params : Arguments} {body : Expr} {scope : Scope} {pos : Pos} {E : Value → Shared → Prop} {Q : Value → Shared → Prop} (I : Inv X pins σ H s) (TB : TabB X.base X.mg c0 P0) (hcode : X.env.code = .ref c) (hC : H c = some (CodeP c Pc q1)) (hPP : Pc ≠ P0)
    (hT : TabS2 H P0 q (X.env.qual ++ "<lambda>")) (hS : TabS H Pc (X.env.qual ++ "<lambda>")) (hdef : defaultsOf params X.env = ([], [])) (hfree : ∀ y ∈ scope.names, y.2 = .free → ∃ c, X.env.cells.lookup y.1 = some c)
    (h : ∀ (f c' : Addr) (pm ctv : Value) (H1 : Hp) (s' : Shared), Inv X pins σ H1 s' → ExtN H H1 → TabS2 H1 P0 q (X.env.qual ++ "<lambda>") →
      s'.heap.get? f = some (PySem.W.kla_obj "<lambda>" (X.env.qual ++ "<lambda>") params body scope (cloFrom X.env.cells scope.names []) pm c' ctv) → H1 f = none → f ∉ frs X.stack → H1 c' = some (CodeO c' (X.env.qual ++ "<lambda>")) → Q (.ref f) s') :
    wpAny (model X.prog X.w) X.A (eval (.Lambda params body scope pos) X.env) Q E s := by
  obtain ⟨ps, hP, ht, ha⟩ := id hS
  refine PySem.W.kla_eval hdef ?_
  obtain ⟨hcd, _⟩ := codeP_at I.hok hC
  have off : ∀ b o, X.base.get? b = some o → b ≠ Pc := fun b o e z => by
    have q := (I.bs b o e).2
    rw [z, hP] at q
    cases q
  have bP : s.heap.BuiltinsAt X.mg Pc := by
    obtain ⟨bm, ob, hbm, hne0, hneG, hneP, hbo, hcls, hdict, hdata⟩ := TB.bm
    exact ⟨bm, ob, hbm, hne0, hneG, off _ _ hbo, I.bk _ _ hbo, hcls, hdict, hdata⟩
  have gP : mainGlobals ≠ Pc := by
    obtain ⟨o, _, _, e, _⟩ := I.mod.glob
    exact off _ _ e
  have hP' : s.heap.get? Pc = some { cls := .none, data := .fields ps } := I.hok Pc _ hP
  have nofr : ∀ f, s.heap.objs.size ≤ f → f ∉ frs X.stack := fun f hf z => by
    rcases List.mem_cons.mp (I.stkSub _ z) with e | e
    · have h1 := I.lt
      rw [← e] at h1
      exact Nat.lt_irrefl _ (Nat.lt_of_lt_of_le h1 hf)
    · exact I.nofs hf e
  cases hc : codeAmong pos ps.toList with
  | none =>
    refine PySem.W.kla_makeFunction (mg := X.mg) (c := c) (P := Pc) (ps := ps) (closure_ok hfree) I.ok.glob (I.mod.glob.keeps I.bk) hcode hcd hP' ht hc gP bP fun c' ctv h' tk hx hge hlt hrec htb => ?_
    obtain ⟨c2, oc, vs, t, e2, hoc, hd, hv⟩ := hrec
    cases e2
    have hsz : s.heap.objs.size ≤ h'.objs.size := Nat.le_trans hge (Nat.le_of_lt hlt)
    have nC : H c' = none := I.hok.fresh hge
    have I1 := LamX.inv_table (t' := tk) (more := #[rawInt pos.line, rawInt pos.col, .ref c']) (h' := h'.push (PySem.W.kla_obj "<lambda>" (X.env.qual ++ "<lambda>") params body scope (cloFrom X.env.cells scope.names []) ((X.mg "__name__").getD .none) c' ctv)) I hP
      (fun b o hb e => Heap.get?_push_of_some _ (hx b o hb e)) (Heap.get?_push_of_some _ htb) hge ⟨oc, vs, t, Heap.get?_push_of_some _ hoc, hd, hv⟩
    have hE : ExtN H (upd (upd H Pc (.tbl (ps ++ #[rawInt pos.line, rawInt pos.col, .ref c']))) c' (CodeO c' (X.env.qual ++ "<lambda>"))) := fun b o e n => by
      rw [upd_ne (ne_of_none e nC), upd_ne (fun z => n ps (Option.some.inj (e.symm.trans (by rw [z]; exact hP))))]
      exact e
    refine h h'.objs.size c' ((X.mg "__name__").getD .none) ctv _ _ I1 hE (hT.grow hP hPP nC ht ha) (Heap.get?_push_size _ rfl) ?_ (nofr _ hsz) upd_same
    have n1 : h'.objs.size ≠ c' := Nat.ne_of_gt hlt
    have n2 : h'.objs.size ≠ Pc := Nat.ne_of_gt (Nat.lt_of_lt_of_le (Heap.lt_size hP') hsz)
    rw [upd_ne n1, upd_ne n2]
    exact I.hok.fresh hsz
  | some cv =>
    obtain ⟨c', e, hco⟩ := ha pos cv hc
    subst e
    refine PySem.W.kla_makeFunctionHit (mg := X.mg) (c := c) (P := Pc) (ps := ps) (closure_ok hfree) I.ok.glob (I.mod.glob.keeps I.bk) hcode hcd hP' ht hc bP fun ctv h' tk hx hsz => ?_
    have I1 : Inv X pins σ H { s with heap := h'.push (PySem.W.kla_obj "<lambda>" (X.env.qual ++ "<lambda>") params body scope (cloFrom X.env.cells scope.names []) ((X.mg "__name__").getD .none) c' ctv), toks := tk } := I.kept fun b o e => Heap.get?_push_of_some _ (hx b o e)
    exact h h'.objs.size c' ((X.mg "__name__").getD .none) ctv H _ I1 (ExtN.refl H) hT (Heap.get?_push_size _ rfl) (I.hok.fresh hsz) (nofr _ hsz) hco
end
end G3
end

/-! ## G3Lam2 -/
section
set_option Elab.async false
set_option linter.all false
set_option maxRecDepth 100000
set_option maxHeartbeats 4000000
/-! A lambda handed to a def and called there: without a parameter, with one. -/
namespace G3
open PySem PySem.Spec PyProof.Rows L2
open LamX (CodeO TabS ExtN TabB LamS lamEnv lamCx lam_start2 among_app codeO_ne run_ofS)

/-! ### a lambda with one parameter -/
/-- y its only own name; captured ones and globals -/
structure LamS1 (sc scope : Scope) (y : Str) : Prop where
  kind : scope.kind = .function
  co : scope.isCoroutine = false
  gen : scope.isGenerator = false
  own : ∀ z ∈ scope.names, z.2 ≠ .cell ∧ (z.2 = .local → z.1 = y)
  loc : scope.names.lookup y = some .local
  free : ∀ z ∈ scope.names, z.2 = .free → sc.names.lookup z.1 = some .cell ∨ sc.names.lookup z.1 = some .free
def lamS1B (sc scope : Scope) (y : Str) : Bool :=
  decide (scope.kind = .function) && !scope.isCoroutine && !scope.isGenerator && decide (scope.names.lookup y = some .local) && scope.names.all fun z => !decide (z.2 = .cell) && (!decide (z.2 = .local) || decide (z.1 = y)) && (!decide (z.2 = .free) || decide (sc.names.lookup z.1 = some .cell) || decide (sc.names.lookup z.1 = some .free))
theorem lamS1_by {sc scope : Scope} {y : Str} (h : lamS1B sc scope y = true) : LamS1 sc scope y := by
  unfold lamS1B at h
  simp only [Bool.and_eq_true, Bool.or_eq_true, Bool.not_eq_true', decide_eq_true_eq, decide_eq_false_iff_not, List.all_eq_true] at h
  obtain ⟨⟨⟨⟨h1, h2⟩, h3⟩, h5⟩, h4⟩ := h
  refine ⟨h1, h2, h3, fun z hz => ⟨(h4 z hz).1.1, fun e => (h4 z hz).1.2.elim (fun q => absurd e q) id⟩, h5, fun z hz e => ?_⟩
  rcases (h4 z hz).2 with (q | q) | q
  · exact absurd e q
  · exact .inl q
  · exact .inr q
theorem LamS1.has {X : Cx} {scope : Scope} {y : Str} (L : LamS1 X.env.scope scope y) (ok : X.Ok) : ∀ z ∈ scope.names, z.2 = .free → ∃ c, X.env.cells.lookup z.1 = some c := fun z hz e => by
  rcases L.free z hz e with k | k
  · exact ok.has _ (.inl k)
  · exact ok.has _ (.inr k)
/-- the context of the lambda's body; the parameter's slot stands behind the maker's -/
abbrev lamCx1 (X : Cx) (A : Around) (outer : List Env) (s : Shared) (H : Hp) (E : XK) (scope : Scope) (f c' : Addr) (y : Str) : Cx := { lamCx X A outer s H E scope f c' with N := X.N ++ [y] }
section
variable {X : Cx} {pins : List (Addr × Obj)} {σ : L2.St} {H HZ : Hp} {s s1 : Shared}
theorem lam_start1 {A : Around} {outer : List Env} {E : XK} {scope : Scope} {f c' : Addr} {h₁ : Heap} {tk : Nat} {y : Str} {v : V} {u : Value} (I : Inv X pins σ H s) (L : LamS1 X.env.scope scope y) (ny : y ∉ X.N) (rv : RelV v u) (e0 : Env0 X.prog X.w X.K X.mg X.base A outer s1 HZ) (hd : A.handled = none)
    (un : Un (frs X.stack) [] H HZ s.heap s1.heap) (hns : h₁.Ns s1.heap.objs.size fun z => ([(y, u)] : List (Str × Value)).reverse.lookup z) (kp : ∀ b o, s1.heap.get? b = some o → h₁.get? b = some o) :
    Inv (lamCx1 X A outer s1 HZ E scope f c' y) [] (σ ++ [some v]) HZ { s1 with heap := h₁, toks := tk } := by
  have hfree := L.has I.ok
  have cm : ∀ {y c}, (cloFrom X.env.cells scope.names []).lookup y = some c → X.env.cells.lookup y = some c := fun {y c} e => by
    rcases cloFrom_mem (PySem.mem_of_lookup e) with hm | ⟨h1, h2⟩
    · cases hm
    · obtain ⟨c1, hc⟩ := hfree _ h1 rfl
      have hc : X.env.cells.lookup y = some c1 := hc
      have e2 : c = c1 := by
        rw [h2, hc] <;> rfl
      rw [e2]
      exact hc
  have look : ∀ {y}, scope.names.lookup y = some .free → ∃ c, (cloFrom X.env.cells scope.names []).lookup y = some c := fun {y} hl => by
    have hy : (y, NameKind.free) ∈ scope.names := PySem.mem_of_lookup hl
    exact mem_lookup (cloFrom_has (cells := X.env.cells) (acc := []) hy)
  have cellK : ∀ {c : Addr} {v : Option Value}, H c = none → s.heap.IsCell c v → h₁.IsCell c v := fun {c v} n ⟨o, ho, hd⟩ => by
    obtain ⟨sl, q⟩ := un.any ho n (by simp)
    exact ⟨_, kp _ _ q, hd⟩
  have noA : ∀ b : Addr, b ∉ (lamCx1 X A outer s1 HZ E scope f c' y).ex := fun b z => absurd (show b ∈ ([] : List Addr) from z) (by simp)
  refine ⟨⟨e0.mod, L.kind, rfl, rfl, Nat.le_refl _, fun y z c e1 e2 => I.ok.inj y z c (cm e1) (cm e2), fun y hy => ?_, fun y c z _ => ?_, fun _ => hd, Around.frames_deeper e0.frames, .inr ⟨rfl, rfl⟩, fun b z => absurd z (noA b), e0.bs, e0.bsz, fun b _ _ => noA b,
      fun b z => absurd z (noA b), e0.funs, e0.frf⟩,
    rfl, e0.bare, Un.kept kp, ⟨_, hns, fun i x v' e1 e2 e3 => ?_⟩, fun y c e => ?_, e0.hok.fresh (Nat.le_refl _), fun y c e => ?_, fun q hq => absurd (show q ∈ ([] : List (Addr × Obj)) ++ [] from hq) (by simp), e0.hok.kept kp, ?_⟩
  · have hy : scope.names.lookup y = some .cell ∨ scope.names.lookup y = some .free := hy
    rcases hy with hy | hy
    · exact absurd rfl (L.own _ (PySem.mem_of_lookup hy)).1
    · exact look hy
  · have z : false = true := z
    cases z
  · have e1 : (X.N ++ [y])[i]? = some x := e1
    have hlen := I.len
    by_cases hi : i < X.N.length
    · rw [List.getElem?_append_left hi] at e1
      rw [List.getElem?_append_left (by omega)] at e2
      have xy : x ≠ y := fun z => ny (z ▸ List.mem_of_getElem? e1)
      have e3 : Vis scope x := e3
      rcases e3 with k | k | k
      · exact absurd ((L.own _ (PySem.mem_of_lookup k)).2 rfl) xy
      · exact absurd rfl (L.own _ (PySem.mem_of_lookup k)).1
      · obtain ⟨m, hn, hl⟩ := I.loc
        have hvis : Vis X.env.scope x := (L.free _ (PySem.mem_of_lookup k) rfl).elim (fun k => .inr (.inl k)) (fun k => .inr (.inr k))
        obtain ⟨w', r, q⟩ := hl i x v' e1 e2 hvis
        obtain ⟨c2, h2⟩ := look k
        refine ⟨w', r, .inr ⟨.inr k, c2, h2, ?_⟩⟩
        have c1 := cm h2
        rcases q with ⟨k', _⟩ | ⟨_, c3, e', z⟩
        · have k' : X.env.scope.names.lookup x = some .local := k'
          rcases L.free _ (PySem.mem_of_lookup k) rfl with k2 | k2 <;> rw [show X.env.scope.names.lookup x = _ from k2] at k' <;> cases k'
        · rw [c1] at e'
          cases e'
          exact cellK (I.freeC x _ c1) z
    · rw [List.getElem?_append_right (by omega)] at e1 e2
      have hi2 : i - X.N.length = 0 := by
        have := (List.getElem?_eq_some_iff.mp e1).1
        rw [List.length_singleton] at this
        omega
      rw [hi2] at e1
      rw [hlen, hi2] at e2
      have ex : y = x := by simpa using e1
      have ev : v = v' := by simpa using e2
      subst ex
      subst ev
      exact ⟨u, rv, .inl ⟨L.loc, by simp⟩⟩
  · obtain ⟨w', z⟩ := I.cell y c (cm e)
    exact ⟨w', cellK (I.freeC y c (cm e)) z⟩
  · obtain ⟨v, o, ho, hd⟩ := I.cell y c (cm e)
    exact un.free c o ho (I.freeC y c (cm e)) (by simp)
  · show (σ ++ [some v]).length = (X.N ++ [y]).length
    rw [List.length_append, List.length_append, I.len]
    rfl
/-- x(), in the def that got the lambda: Z is that def's context, entered at s -/
theorem act0 {CXg : CXT} {Eg : XK} {Ng : List Str} {qg : Str} {sg : Scope} {g f c' : Addr} {cdg pm ctv : Value} {params : Arguments} {body : Expr} {scope : Scope} {k i : Nat} {a : Str} {pn : List (Addr × Obj)} {xe : Value → Shared → Prop} {W : WX} {tb : XK → TE} {p1 p2 : Pos} {Cd : Hp → Prop}
    (I : Inv X pins σ H s) (L : LamS X.env.scope scope) (hf : s.heap.get? f = some (PySem.W.kla_obj "<lambda>" (X.env.qual ++ "<lambda>") params body scope (cloFrom X.env.cells scope.names []) pm c' ctv)) (hfn : H f = none) (hfr : f ∉ frs X.stack)
    (hcd : ∀ (H : Hp) (h : Heap), HOk X.prog X.w H h → Cd H → h.CodeRec (.ref c') (X.env.qual ++ "<lambda>"))
    (hbind : bindArgs (PySem.W.kla_fn "<lambda>" (X.env.qual ++ "<lambda>") params body scope (cloFrom X.env.cells scope.names []) pm (.ref c') ctv) ⟨[], []⟩ = pure [])
    (tk : Takes ((cxOf CXg X.prog X.w X.K X.mg X.base Ng qg sg g cdg X.A X.stack s H Eg).tr pn xe) W) (hr : Room (k + 1) (X.A.deeper (envOfC qg sg s.heap.objs.size g cdg)))
    (hbody : ∀ (A : Around) (outer : List Env) (s : Shared) (H : Hp) (E : XK), Room k (A.deeper (lamEnv X scope s.heap.objs.size f c')) → PE (lamCx X A outer s H E scope f c') body (tb E))
    (hN : Ng[i]? = some a) (hv : Vis sg a) (hd : (a == ("__debug__" : Str)) = false := by decide) (hcdd : (a == ("__classdict__" : Str)) = false := by decide) :
    PE ((cxOf CXg X.prog X.w X.K X.mg X.base Ng qg sg g cdg X.A X.stack s H Eg).tr pn xe) (.Call (.Name a p1) [] [] p2)
      (fun σZ HZ Q => σZ[i]? = some (some (.ref f)) ∧ Cd HZ ∧ ∃ E : XK, (∀ cls d H', E cls d H' → W cls d σZ H') ∧ tb E σ HZ Q) := by
  refine ⟨fun pinsZ sZ σZ HZ Q IZ h => ?_⟩
  obtain ⟨hs, hc, E, hW, ht⟩ := h
  refine wpAny_Call_Name_kw (thn ((pe_var (pos := p1) (i := i) hN hv hd hcdd).run pinsZ sZ σZ HZ (fun v H1 => v = .ref f ∧ H1 = HZ) IZ ⟨.ref f, hs, rfl, rfl⟩) fun u s1 ⟨v, H1, I1, r1, q1⟩ => ?_)
  obtain ⟨ev, eH⟩ := q1
  subst ev
  rw [eH] at I1
  obtain rfl : u = Value.ref f := r1
  have of1 : s1.heap.get? f = some (PySem.W.kla_obj "<lambda>" (X.env.qual ++ "<lambda>") params body scope (cloFrom X.env.cells scope.names []) pm c' ctv) := I1.base.keep f _ hf hfn hfr (fun z => nomatch (show f ∈ ([] : List Addr) from z))
  refine PySem.W.callWith_F0 ⟨_, _, _, _, of1⟩ ?_
  have un : Un (frs X.stack) [] H HZ s.heap s1.heap := I1.base
  have rc : codeAny (model X.prog X.w) (X.A.deeper (envOfC qg sg s.heap.objs.size g cdg)) (.call (.ref f) ⟨[], []⟩) (CR (L2.CX X.prog X.w) (envOfC qg sg s.heap.objs.size g cdg :: X.stack) X.prog X.w HZ s1 Q E) s1 := by
    refine PySem.W.kla_callFunE hr.depth of1 rfl L.co L.gen rfl (hcd _ _ I1.hok hc) ?_
    rw [hbind]
    refine wpAny_pure (wpAny_newFunctionEnv (fun y hy => (L.own y hy).2) (fun y hy => absurd hy (by simp)) (fun h₁ hns hsb => ⟨I1.nolimit.fresh _ hsb, ?_⟩) L.kind)
    show codeAny _ _ (.expr body (lamEnv X scope s1.heap.objs.size f c')) _ _
    have kp : ∀ b o, s1.heap.get? b = some o → h₁.get? b = some o := fun b o e => hsb.extBut b o (Nat.ne_of_lt (Heap.lt_size e)) (Heap.get?_push_of_some _ e)
    have J : Inv (lamCx X (X.A.deeper (envOfC qg sg s.heap.objs.size g cdg)) (envOfC qg sg s.heap.objs.size g cdg :: X.stack) s1 HZ E scope f c') [] σ HZ { s1 with heap := h₁, toks := s1.toks + ([] : List (Str × Value)).length } :=
      lam_start2 I L I1.env0 hr.hd un hns kp
    refine PySem.W.kla_codeExpr (wpAny_mono ((hbody _ _ s1 HZ E (hr.deeper _)).run [] _ _ HZ Q J ht) (fun v s' hq => ?_) fun e s' hq => hq)
    obtain ⟨w', H', J', rv, q⟩ := hq
    exact ⟨w', H', J'.os, J'.bare, J'.base, J'.hok, rv, q⟩
  refine wpAny_call (codeAny_mono rc fun r s' hq => ?_)
  cases r with
  | error e => exact tk e s' (XE.of_call I1 hW hq)
  | ok fl =>
    cases fl with
    | ret u => exact I1.after hq
    | next => exact False.elim hq
    | brk => exact False.elim hq
    | cont => exact False.elim hq
/-- x(e), .. with one parameter -/
theorem act1 {CXg : CXT} {Eg : XK} {Ng : List Str} {qg : Str} {sg : Scope} {g f c' : Addr} {cdg pm ctv : Value} {params : Arguments} {body : Expr} {scope : Scope} {k i : Nat} {a y : Str} {pn : List (Addr × Obj)} {xe : Value → Shared → Prop} {W : WX} {tb : XK → TE} {te : TE} {e : Expr} {p1 p2 : Pos} {Cd : Hp → Prop}
    (I : Inv X pins σ H s) (L : LamS1 X.env.scope scope y) (ny : y ∉ X.N) (hf : s.heap.get? f = some (PySem.W.kla_obj "<lambda>" (X.env.qual ++ "<lambda>") params body scope (cloFrom X.env.cells scope.names []) pm c' ctv)) (hfn : H f = none) (hfr : f ∉ frs X.stack)
    (hcd : ∀ (H : Hp) (h : Heap), HOk X.prog X.w H h → Cd H → h.CodeRec (.ref c') (X.env.qual ++ "<lambda>"))
    (hbind : ∀ u, bindArgs (PySem.W.kla_fn "<lambda>" (X.env.qual ++ "<lambda>") params body scope (cloFrom X.env.cells scope.names []) pm (.ref c') ctv) ⟨[u], []⟩ = pure [(y, u)])
    (tk : Takes ((cxOf CXg X.prog X.w X.K X.mg X.base Ng qg sg g cdg X.A X.stack s H Eg).tr pn xe) W) (hr : Room (k + 1) (X.A.deeper (envOfC qg sg s.heap.objs.size g cdg)))
    (hbody : ∀ (A : Around) (outer : List Env) (s : Shared) (H : Hp) (E : XK), Room k (A.deeper (lamEnv X scope s.heap.objs.size f c')) → PE (lamCx1 X A outer s H E scope f c' y) body (tb E))
    (he : PE ((cxOf CXg X.prog X.w X.K X.mg X.base Ng qg sg g cdg X.A X.stack s H Eg).tr pn xe) e te)
    (hN : Ng[i]? = some a) (hv : Vis sg a) (hd : (a == ("__debug__" : Str)) = false := by decide) (hcdd : (a == ("__classdict__" : Str)) = false := by decide)
    (hst : starEach [e] (envOfC qg sg s.heap.objs.size g cdg) = (false, eval e (envOfC qg sg s.heap.objs.size g cdg)) :: starEach [] (envOfC qg sg s.heap.objs.size g cdg) := by rfl) (hpl : (backTo p2 (starEach [] (envOfC qg sg s.heap.objs.size g cdg))).any (·.1) = false := by rfl) :
    PE ((cxOf CXg X.prog X.w X.K X.mg X.base Ng qg sg g cdg X.A X.stack s H Eg).tr pn xe) (.Call (.Name a p1) [e] [] p2)
      (fun σZ HZ Q => σZ[i]? = some (some (.ref f)) ∧ te σZ HZ fun w H1 => Cd H1 ∧ ∃ E : XK, (∀ cls d H', E cls d H' → W cls d σZ H') ∧ tb E (σ ++ [some w]) H1 Q) := by
  refine ⟨fun pinsZ sZ σZ HZ Q IZ h => ?_⟩
  obtain ⟨hs, ht⟩ := h
  refine wpAny_Call_Name_kw (thn ((pe_var (pos := p1) (i := i) hN hv hd hcdd).run pinsZ sZ σZ HZ (fun v H1 => v = .ref f ∧ H1 = HZ) IZ ⟨.ref f, hs, rfl, rfl⟩) fun u s1 ⟨v, H1, I1, r1, q1⟩ => ?_)
  obtain ⟨ev, eH⟩ := q1
  subst ev
  rw [eH] at I1
  obtain rfl : u = Value.ref f := r1
  have of_ : ∀ {σ' : L2.St} {H' : Hp} {s' : Shared}, Inv ((cxOf CXg X.prog X.w X.K X.mg X.base Ng qg sg g cdg X.A X.stack s H Eg).tr pn xe) pinsZ σ' H' s' → s'.heap.get? f = some (PySem.W.kla_obj "<lambda>" (X.env.qual ++ "<lambda>") params body scope (cloFrom X.env.cells scope.names []) pm c' ctv) :=
    fun J => J.base.keep f _ hf hfn hfr (fun z => nomatch (show f ∈ ([] : List Addr) from z))
  have mono : (fun (w : V) (H1 : Hp) => Cd H1 ∧ ∃ E : XK, (∀ cls d H', E cls d H' → W cls d σZ H') ∧ tb E (σ ++ [some w]) H1 Q) = fun x H1 => tNil σZ H1 fun xs H2 => ∃ w, x :: xs = [w] ∧ Cd H2 ∧ ∃ E : XK, (∀ cls d H', E cls d H' → W cls d σZ H') ∧ tb E (σ ++ [some w]) H2 Q := by
    funext w H1
    refine propext ⟨fun z => ⟨w, rfl, z⟩, fun ⟨w', e', z⟩ => ?_⟩
    cases e'
    exact z
  rw [mono] at ht
  refine PySem.W.callWith_F (first := []) ⟨_, _, _, _, of_ I1⟩ (thn ((pa_cons he pa_nil hst).run p2 pinsZ s1 σZ HZ (fun vs H' => ∃ w, vs = [w] ∧ Cd H' ∧ ∃ E : XK, (∀ cls d H', E cls d H' → W cls d σZ H') ∧ tb E (σ ++ [some w]) H' Q) I1 ht) fun us s2 ⟨vs, H2, I2, r2, w, evs, hc, E, hW, q2⟩ => ⟨⟨_, _, _, _, of_ I2⟩, ?_⟩) hst hpl
  subst evs
  obtain ⟨uw, rfl, rw'⟩ := vals1 r2
  have of1 := of_ I2
  have un : Un (frs X.stack) [] H H2 s.heap s2.heap := I2.base
  have rc : codeAny (model X.prog X.w) (X.A.deeper (envOfC qg sg s.heap.objs.size g cdg)) (.call (.ref f) ⟨[uw], []⟩) (CR (L2.CX X.prog X.w) (envOfC qg sg s.heap.objs.size g cdg :: X.stack) X.prog X.w H2 s2 Q E) s2 := by
    refine PySem.W.kla_callFunE hr.depth of1 rfl L.co L.gen rfl (hcd _ _ I2.hok hc) ?_
    rw [hbind uw]
    refine wpAny_pure (wpAny_newFunctionEnv (fun y hy => (L.own y hy).1) (fun z hz => ?_) (fun h₁ hns hsb => ⟨I2.nolimit.fresh _ hsb, ?_⟩) L.kind)
    · rw [List.mem_singleton.mp hz]
      exact L.loc
    show codeAny _ _ (.expr body (lamEnv X scope s2.heap.objs.size f c')) _ _
    have kp : ∀ b o, s2.heap.get? b = some o → h₁.get? b = some o := fun b o e => hsb.extBut b o (Nat.ne_of_lt (Heap.lt_size e)) (Heap.get?_push_of_some _ e)
    have J : Inv (lamCx1 X (X.A.deeper (envOfC qg sg s.heap.objs.size g cdg)) (envOfC qg sg s.heap.objs.size g cdg :: X.stack) s2 H2 E scope f c' y) [] (σ ++ [some w]) H2 { s2 with heap := h₁, toks := s2.toks + ([(y, uw)] : List (Str × Value)).length } :=
      lam_start1 I L ny rw' I2.env0 hr.hd un hns kp
    refine PySem.W.kla_codeExpr (wpAny_mono ((hbody _ _ s2 H2 E (hr.deeper _)).run [] _ _ H2 Q J q2) (fun v s' hq => ?_) fun e s' hq => hq)
    obtain ⟨w', H', J', rv, q⟩ := hq
    exact ⟨w', H', J'.os, J'.bare, J'.base, J'.hok, rv, q⟩
  refine wpAny_call (codeAny_mono rc fun r s' hq => ?_)
  cases r with
  | error e => exact tk e s' (XE.of_call I2 hW hq)
  | ok fl =>
    cases fl with
    | ret u => exact I2.after hq
    | next => exact False.elim hq
    | brk => exact False.elim hq
    | cont => exact False.elim hq
end
end G3
end

/-! ## G3Lam3 -/
section
set_option Elab.async false
set_option linter.all false
set_option maxRecDepth 100000
set_option maxHeartbeats 4000000
/-! x(lambda: body) and x(e, lambda y: body) as expressions. -/
namespace G3
open PySem PySem.Spec PyProof.Rows L2
open LamX (CodeO TabS ExtN TabB LamS lamEnv lamCx lam_start2 among_app codeO_ne run_ofS)

/-- the def that calls what it got: TT is what it makes of the lambda's reading -/
def Gives0 (X : Cx) (Ng : List Str) (x : Str) (sg : Scope) (bg : List Stmt) (a : Str) (k : Nat) (TT : (XK → Hp → VK → Prop) → Hp → VK → Prop) : Prop :=
  ∀ (g : Addr) (cdg : Value) (f : Addr) (s : Shared) (H : Hp) (Q : VK) (Cd : Hp → Prop) (tl : XK → Hp → VK → Prop), Room k (X.A.deeper (envOfC x sg s.heap.objs.size g cdg)) →
    (∀ (W : WX) (pn : List (Addr × Obj)) (xe : Value → Shared → Prop) (p1 p2 : Pos), Takes ((cxOf L2.CX0 X.prog X.w X.K X.mg X.base Ng x sg g cdg X.A X.stack s H L2.E0).tr pn xe) W →
      PE ((cxOf L2.CX0 X.prog X.w X.K X.mg X.base Ng x sg g cdg X.A X.stack s H L2.E0).tr pn xe) (.Call (.Name a p1) [] [] p2) (fun σZ HZ Q => σZ[0]? = some (some (.ref f)) ∧ Cd HZ ∧ ∃ E : XK, (∀ cls d H', E cls d H' → W cls d σZ H') ∧ tl E HZ Q)) →
    Cd H → TT tl H Q →
    ∃ t, PSs (cxOf L2.CX0 X.prog X.w X.K X.mg X.base Ng x sg g cdg X.A X.stack s H L2.E0).nox bg t ∧ t { nx := fun _ H' => Q .non H', rt := Q } (L2.start Ng [.ref f]) H
/-- .. its second argument, with one of its own names; what it lets out is told -/
def Gives1 (X : Cx) (Ng : List Str) (x : Str) (sg : Scope) (bg : List Stmt) (a : Str) (q : Str) (k : Nat) (TT : V → (XK → Hp → V → VK → Prop) → Hp → VK → XK → Prop) : Prop :=
  ∀ (g : Addr) (cdg : Value) (v : V) (f c' : Addr) (s : Shared) (H : Hp) (Q : VK) (Ex : XK) (tl : XK → Hp → V → VK → Prop), Room k (X.A.deeper (envOfC x sg s.heap.objs.size g cdg)) →
    (∀ (W : WX) (pn : List (Addr × Obj)) (xe : Value → Shared → Prop) (b : Str) (te : TE) (p1 p2 p3 : Pos), Takes ((cxOf (L2.CX X.prog X.w) X.prog X.w X.K X.mg X.base Ng x sg g cdg X.A X.stack s H Ex).tr pn xe) W →
      PE ((cxOf (L2.CX X.prog X.w) X.prog X.w X.K X.mg X.base Ng x sg g cdg X.A X.stack s H Ex).tr pn xe) (.Name b p3) te →
      PE ((cxOf (L2.CX X.prog X.w) X.prog X.w X.K X.mg X.base Ng x sg g cdg X.A X.stack s H Ex).tr pn xe) (.Call (.Name a p1) [.Name b p3] [] p2) (fun σZ HZ Q => σZ[1]? = some (some (.ref f)) ∧ te σZ HZ fun w H1 => H1 c' = some (CodeO c' q) ∧ ∃ E : XK, (∀ cls d H', E cls d H' → W cls d σZ H') ∧ tl E H1 w Q)) →
    H c' = some (CodeO c' q) → TT v tl H Q Ex →
    ∃ t, PSs (cxOf (L2.CX X.prog X.w) X.prog X.w X.K X.mg X.base Ng x sg g cdg X.A X.stack s H Ex) bg t ∧ t { nx := fun _ H' => Q .non H', rt := Q } (L2.start Ng [v, .ref f]) H
def tLam0 (P : Addr) (q q2 : Str) (TT : (XK → Hp → VK → Prop) → Hp → VK → Prop) (t : XK → Addr → Addr → TE) : TE := fun σ H Q => TabS2 H P q q2 ∧ ∀ c' Pc H1, ExtN H H1 → TabS2 H1 P q q2 → H1 c' = some (CodeP c' Pc q) → TabS H1 Pc q2 → Pc ≠ P → TT (fun E H' Q' => t E c' Pc σ H' Q') H1 Q
def tLam1 (P0 c Pc : Addr) (q q1 q2 : Str) (te : TE) (TT : V → (XK → Hp → V → VK → Prop) → Hp → VK → XK → Prop) (t : XK → TE) (E : XK) : TE := fun σ H Q => te σ H fun v H1 => H1 c = some (CodeP c Pc q1) ∧ TabS2 H1 P0 q q2 ∧ TabS H1 Pc q2 ∧ Pc ≠ P0 ∧
  ∀ H2, ExtN H1 H2 → TabS2 H2 P0 q q2 → TT v (fun E H' w Q' => t E (σ ++ [some w]) H' Q') H2 Q E
section
variable {X : Cx}
/-- x(lambda: body) -/
theorem pe_lam0 {TT : (XK → Hp → VK → Prop) → Hp → VK → Prop} {x a : Str} {st : Stmt} {c P : Addr} {q2 : Str} {k : Nat} {Ng : List Str} {params : Arguments} {body : Expr} {scope : Scope} {t : XK → Addr → Addr → TE} {p lpos pos : Pos} (F : St0 X.K X.mg x st) (Sg : FnScope Ng [a] (defScope st))
    (hb : ∀ (kV doc pm : Value) (an : Option Addr) (cdv ct : Value) (us : List Value), us.length = [a].length → bindArgs (PySem.W.fnOf x x (defArgs st) (defBody st) (defScope st) .none kV doc pm an cdv ct) ⟨us, []⟩ = pure ([a].zip us))
    (hNg : Ng[0]? = some a) (hva : Vis (defScope st) a) (hG : Gives0 X Ng x (defScope st) (defBody st) a (k + 1) TT)
    (TB : TabB X.base X.mg c P) (hcode : X.env.code = .ref c) (hr : Room (k + 2) X.A) (L : LamS X.env.scope scope) (hdef : defaultsOf params X.env = ([], []))
    (hbind : ∀ (q : Str) (cl : List (Str × Addr)) (pm cv ctv : Value), bindArgs (PySem.W.kla_fn "<lambda>" q params body scope cl pm cv ctv) ⟨[], []⟩ = pure [])
    (hbody : ∀ (A : Around) (outer : List Env) (s : Shared) (H : Hp) (E : XK) (f c' Pc : Addr), Room k (A.deeper (lamEnv X scope s.heap.objs.size f c')) → PE (lamCx X A outer s H E scope f c') body (t E c' Pc))
    (hg : Gl X x := by rfl) (hdb : (x == ("__debug__" : Str)) = false := by decide) (hd : (a == ("__debug__" : Str)) = false := by decide) (hcd : (a == ("__classdict__" : Str)) = false := by decide) :
    PE X (.Call (.Name x p) [.Lambda params body scope lpos] [] pos) (tLam0 P (X.env.qual ++ "<lambda>") q2 TT t) := by
  obtain ⟨g, fd, hm, Fd⟩ := F
  have hbn := Fd.bindsN hb
  obtain ⟨oc, od, dV, kV, doc, pm, an, cdv, ct, osl, rfl, lk, hcg, _, _⟩ := Fd.ex
  refine ⟨fun pins s σ H Q I h => ?_⟩
  obtain ⟨hT, h⟩ := h
  refine wpAny_Call_Name_kw (ld_glob I hg hm ?_ hdb)
  refine PySem.W.callWith_K (h₀ := X.base) I.ok.mod.kin Fd.kp ?_ (by rfl) (by rfl)
  show wpAny _ _ (spliced ((false, eval (.Lambda params body scope lpos) X.env) :: backTo pos (starEach [] X.env))) _ _ s
  refine Calls.spliced_cons (lam_outer (q2 := q2) I TB hcode hT hdef (L.has I.ok) fun f c' Pc pm' ctv H1 s' I1 eN T1 hf hfn hfr hco hsub hne => ?_)
  refine Calls.spliced_nil ⟨I1.kIn, ?_⟩
  have rc : codeAny (model X.prog X.w) X.A (.call (.ref g) ⟨[.ref f], []⟩) (CR L2.CX0 X.stack X.prog X.w H1 s' Q L2.E0) s' := by
    refine run_ofS (N := Ng) (ps := [a]) (us := [.ref f]) (vs := [.ref f]) lk hcg Sg hr I1.env0 (hbn s' [.ref f] I1.kIn rfl) (.cons rfl .nil) rfl fun hr' => ?_
    obtain ⟨t', ht', hq'⟩ := hG g cdv f s' H1 Q (fun HZ => HZ c' = some (CodeP c' Pc (X.env.qual ++ "<lambda>"))) (fun E H' Q' => t E c' Pc σ H' Q') hr' (fun W pn xe p1 p2 tk => act0 (i := 0) I1 L hf hfn hfr (fun H h hok e => (codeP_at hok e).2) (hbind _ _ _ _ _) tk hr' (fun A outer s H E hr2 => hbody A outer s H E f c' Pc hr2) hNg hva hd hcd) hco (h c' Pc H1 eN T1 hco hsub hne)
    exact ⟨t', ht'.nox, hq'⟩
  refine wpAny_call (codeAny_mono rc fun r s2 hq => ?_)
  cases r with
  | error e => exact (show False from hq).elim
  | ok fl =>
    cases fl with
    | ret u => exact I1.after hq
    | next => exact False.elim hq
    | brk => exact False.elim hq
    | cont => exact False.elim hq
/-- x(e, lambda y: body), in a lambda -/
theorem pe_lam1 {TT : V → (XK → Hp → V → VK → Prop) → Hp → VK → XK → Prop} {x a0 a y q q1 : Str} {st : Stmt} {c0 P0 c Pc : Addr} {k : Nat} {Ng : List Str} {params : Arguments} {body e : Expr} {scope : Scope} {te : TE} {t : XK → TE} {E : XK} {p lpos pos : Pos} (F : St0 X.K X.mg x st) (Sg : FnScope Ng [a0, a] (defScope st))
    (hb : ∀ (kV doc pm : Value) (an : Option Addr) (cdv ct : Value) (us : List Value), us.length = [a0, a].length → bindArgs (PySem.W.fnOf x x (defArgs st) (defBody st) (defScope st) .none kV doc pm an cdv ct) ⟨us, []⟩ = pure ([a0, a].zip us))
    (hNg : Ng[1]? = some a) (hva : Vis (defScope st) a) (hG : Gives1 X Ng x (defScope st) (defBody st) a (X.env.qual ++ "<lambda>") (k + 1) TT)
    (TB : TabB X.base X.mg c0 P0) (hcode : X.env.code = .ref c) (hr : Room (k + 2) X.A) (L : LamS1 X.env.scope scope y) (ny : y ∉ X.N) (hdef : defaultsOf params X.env = ([], [])) (hx : Passes (L2.CX X.prog X.w) X E) (he : PE X e te)
    (hbind : ∀ (q : Str) (cl : List (Str × Addr)) (pm cv ctv u : Value), bindArgs (PySem.W.kla_fn "<lambda>" q params body scope cl pm cv ctv) ⟨[u], []⟩ = pure [(y, u)])
    (hbody : ∀ (A : Around) (outer : List Env) (s : Shared) (H : Hp) (E : XK) (f c' : Addr), Room k (A.deeper (lamEnv X scope s.heap.objs.size f c')) → PE (lamCx1 X A outer s H E scope f c' y) body (t E))
    (hg : Gl X x := by rfl) (hdb : (x == ("__debug__" : Str)) = false := by decide) (hd : (a == ("__debug__" : Str)) = false := by decide) (hcd : (a == ("__classdict__" : Str)) = false := by decide)
    (hs : starEach [e, .Lambda params body scope lpos] X.env = (false, eval e X.env) :: starEach [.Lambda params body scope lpos] X.env := by rfl) :
    PE X (.Call (.Name x p) [e, .Lambda params body scope lpos] [] pos) (tLam1 P0 c Pc q q1 (X.env.qual ++ "<lambda>") te TT t E) := by
  obtain ⟨g, fd, hm, Fd⟩ := F
  have hbn := Fd.bindsN hb
  obtain ⟨oc, od, dV, kV, doc, pm, an, cdv, ct, osl, rfl, lk, hcg, _, _⟩ := Fd.ex
  refine ⟨fun pins s σ H Q I h => ?_⟩
  refine wpAny_Call_Name_kw (ld_glob I hg hm ?_ hdb)
  refine PySem.W.callWith_K (h₀ := X.base) I.ok.mod.kin Fd.kp ?_ hs (by rfl)
  rw [hs]
  show wpAny _ _ (spliced ((false, eval e X.env) :: backTo pos (starEach [.Lambda params body scope lpos] X.env))) _ _ s
  refine Calls.spliced_cons (thn (he.run pins s σ H _ I h) fun u s1 ⟨v, H1, I1, r1, hC, hT, hS, hPP, q1⟩ => ?_)
  show wpAny _ _ (spliced ((false, eval (.Lambda params body scope lpos) X.env) :: backTo pos (starEach [] X.env))) _ _ s1
  refine Calls.spliced_cons (lam_inner I1 TB hcode hC hPP hT hS hdef (L.has I.ok) fun f c' pm' ctv H2 s' I2 eN T1 hf hfn hfr hco => ?_)
  refine Calls.spliced_nil ⟨I2.kIn, ?_⟩
  have rc : codeAny (model X.prog X.w) X.A (.call (.ref g) ⟨[u, .ref f], []⟩) (CR (L2.CX X.prog X.w) X.stack X.prog X.w H2 s' Q E) s' := by
    refine run_ofS (N := Ng) (ps := [a0, a]) (us := [u, .ref f]) (vs := [v, .ref f]) lk hcg Sg hr I2.env0 (hbn s' [u, .ref f] I2.kIn rfl) (.cons r1 (.cons rfl .nil)) rfl fun hr' => ?_
    exact hG g cdv v f c' s' H2 Q E (fun E H' w Q' => t E (σ ++ [some w]) H' Q') hr' (fun W pn xe b te p1 p2 p3 tk heb => act1 (i := 1) I2 L ny hf hfn hfr (fun H h hok e => codeO_at hok e) (hbind _ _ _ _ _) tk hr' (fun A outer s H E hr2 => hbody A outer s H E f c' hr2) heb hNg hva hd hcd) hco (q1 H2 eN T1)
  refine wpAny_call (codeAny_mono rc fun r s2 hq => ?_)
  cases r with
  | error e => exact hx pins σ H2 s' e s2 I2 hq
  | ok fl =>
    cases fl with
    | ret u => exact I2.after hq
    | next => exact False.elim hq
    | brk => exact False.elim hq
    | cont => exact False.elim hq
end
end G3
end

/-! ## G3Trial -/
section
set_option Elab.async false
set_option linter.all false
set_option maxRecDepth 100000
set_option maxHeartbeats 4000000
local macro_rules | `(tactic| walk_at "nf") => `(tactic| simp only [L2.tRet, L2.tRetN, L2.tAndV, L2.tOrV, L2.tNotV, L2.tCB, L2.tCons, L2.tNil, L2.tVar, L2.tC, L2.tDIn, L2.tDNotIn, L2.tDGet, L2.tOp, L2.tUn, L2.tTest, L2.tB, L2.tIf, L2.tIfS, L2.tAnd, L2.tOr, L2.tNot, L2.tSeq, L2.tAsg, L2.gName, L2.tDrop, L2.tNext, L2.tCall, L2.tTup, L2.tLst, L2.tBM, L2.tBM0, L2.tSl, L2.tPart, L2.tNoPart, L2.sDPut, L2.tFld, L2.sFld, L2.tMeth, L2.tYes, L2.gTup, L2.gCons, L2.gNil, L2.tIsN, L2.tNotN, L2.tPar, L2.tPar3, L2.tDNewK, L2.tDisp, L2.tPairs, L2.tDGet1, StX.tStar, L2.gSub, L2.tProp, L2.tVeI, L2.tOst, L2.tMkO, L2.tDNewT, L2.tLock, G3.tFrzS, L2.tMake, L2.tDNewT, G3.lcL_fld, G3.lcT_fld, G3.forL_fld, G3.tListVals, G3.lc2T_op, G3.lc2L_call, L2.tGThen, L2.tG0, L2.tPlain, L2.GEnds.at, L2.tGYield, L2.tCallG, L2.tListG, G3.tTupIx, G3.dcT_op, G3.tFrz, G3.dcI_frz, G3.lcI_frz, G3.lcY_frz, G3.lcI_call, G3.lcT_lit, G3.forT_lit, G3.lcL_call, G3.lcL_op, G3.lcL_dget, G3.lcT_call, G3.lcT_op, G3.lcT_dget, G3.forL_call, G3.forL_op, G3.forL_dget, G3.forT_call, G3.forT_op, G3.forT_dget, G3.ex_l1, G3.ex_l2, G3.ex_l3,
  G3.start_eq, G3.cxOf_K, G3.wipe_nil, G3.wipe_cons, List.map_cons, List.map_nil, List.nil_append, List.cons_append, List.append_nil, List.getElem?_cons_zero, List.getElem?_cons_succ, List.set_cons_zero, List.set_cons_succ, List.set_nil, List.length_cons, List.length_nil, List.replicate, Option.some.injEq, G3.ex_eq, Nat.reduceAdd, Nat.reduceSub, Nat.zero_add, List.replicate_succ, List.replicate_zero, true_and, if_true, if_false, Bool.false_eq_true, Nat.add_zero, Int.add_zero])
namespace G3
open PySem PySem.Spec PyProof.Rows L2

open LamX (CodeO)
open L2H (RoomH)
abbrev tm (j : Nat) : Stmt := meth 63 j
abbrev sTInit : Stmt := tm 0
abbrev sTEnter : Stmt := tm 1
abbrev sTExit : Stmt := tm 2
abbrev sReh : Stmt := top 64
theorem scTInit : FnScope ["self", "fleet"] ["self", "fleet"] (defScope sTInit) := ⟨rfl, rfl, rfl, by decide +kernel, rfl, by decide +kernel, by decide +kernel⟩
theorem scTEnter : FnScope ["self"] ["self"] (defScope sTEnter) := ⟨rfl, rfl, rfl, by decide +kernel, rfl, by decide +kernel, by decide +kernel⟩
theorem scTExit : FnScope ["self", "kind", "value", "trace"] ["self", "kind", "value", "trace"] (defScope sTExit) := ⟨rfl, rfl, rfl, by decide +kernel, rfl, by decide +kernel, by decide +kernel⟩
theorem scReh : FnScope ["fleet", "steps", "found", "held"] ["fleet", "steps"] (defScope sReh) := ⟨rfl, rfl, rfl, by decide +kernel, rfl, by decide +kernel, by decide +kernel⟩
/-- the class Trial -/
structure TCls (K : PySem.W.Frag) (CT : Addr) : Prop where
  cl : Cls K CT
  fl : NoAttr K CT "fleet_tried"
  mom : NoAttr K CT "moment_before"
def tF (fv mv : V) : List (Str × V) := [("fleet_tried", fv), ("moment_before", mv)]
def spTInit (CT : Addr) : Sp := fun vs H Q _ => ∃ (t dx : Addr) (v : V), vs = [.ref t, v] ∧ H t = some (.ins CT dx []) ∧ ∀ H', Keep [t] H H' → H' t = some (.ins CT dx (tF v .non)) → Q .non H'
def spTEnter (CT C : Addr) : Sp := fun vs H Q _ => ∃ (t dx F dF : Addr) (vn vc mv : V), vs = [.ref t] ∧ H t = some (.ins CT dx (tF (.ref F) .non)) ∧ H F = some (.ins C dF (flF vn vc mv)) ∧ ∀ H', Keep [t] H H' → H' t = some (.ins CT dx (tF (.ref F) mv)) → Q (.ref F) H'
def spTExit (CT C : Addr) : Sp := fun vs H Q _ => ∃ (t dx F dF : Addr) (vn vc mv mv2 k v tr : V), vs = [.ref t, k, v, tr] ∧ H t = some (.ins CT dx (tF (.ref F) mv)) ∧ H F = some (.ins C dF (flF vn vc mv2)) ∧ ∀ H', Keep [F] H H' → H' F = some (.ins C dF (flF vn vc mv)) → Q .non H'
section
variable {P : Program} {w : World} {K : PySem.W.Frag} {mg : Str → Option Value} {base : Heap} {k : Nat} {m qual : Str} {C CT : Addr} {N ps : List Str} {sp : Sp} {st : Stmt}
theorem StM.okW (F : StM K C m qual st) (S : FnScope N ps (defScope st)) (len : ∀ vs H Q E, sp vs H Q E → vs.length = ps.length)
    (hb : ∀ (kV doc pm : Value) (an : Option Addr) (cdv ct : Value) (us : List Value), us.length = ps.length → bindArgs (PySem.W.fnOf m qual (defArgs st) (defBody st) (defScope st) .none kV doc pm an cdv ct) ⟨us, []⟩ = pure (ps.zip us))
    (hbody : ∀ (f : Addr) (cdv : Value) (A : Around) (outer : List Env) (s : Shared) (H : Hp) (vs : List V) (Q : VK) (E : XK), RoomH k (A.deeper (envOfC qual (defScope st) s.heap.objs.size f cdv)) → sp vs H Q E →
      ∃ t, PSs (cxW CX0 P w K mg base N qual (defScope st) f cdv A outer s H E) (defBody st) t ∧ t { nx := fun _ H' => Q .non H', rt := Q } (start N vs) H) : MfW P w K mg base (k + 1) C m ps sp := by
  obtain ⟨f, fd, hm, F⟩ := F
  have hbn := F.bindsN hb
  obtain ⟨oc, od, dV, kV, doc, pm, an, cdv, ct, osl, rfl, lk, hcd, _, _⟩ := F.ex
  exact ⟨f, _, hm, hbn, fn_ofW lk hcd S len fun A outer s H vs Q E hr h => hbody f cdv A outer s H vs Q E hr h⟩
theorem ok_tinit (T : TCls K CT) (F : StM K CT "__init__" "Trial.__init__" sTInit) : Mf P w K mg base CX0 1 CT "__init__" ["self", "fleet"] (spTInit CT) := by
  refine F.ok0 scTInit (fun vs H Q E h => ?_) (fun _ _ _ _ _ _ us hl => match us, hl with | [_, _], _ => rfl) fun f cdv A outer s H vs Q E hr h => ?_
  · obtain ⟨t, dx, v, rfl, _⟩ := h
    rfl
  obtain ⟨t, dx, v, rfl, ht, q⟩ := h
  refine ⟨_, pss_cons (ps_fld (pv 0) (pv 1) rfl) (pss_one (ps_fld (pv 0) pe_non rfl)), ?_⟩
  walk_at "nf"
  refine ⟨t, CT, dx, _, rfl, ht, T.cl, T.fl, by simp, t, CT, dx, _, rfl, upd_same, T.cl, T.mom, by simp [putF], q _ ?_ upd_same⟩
  exact (Keep.upd (by simp)).trans (.upd (by simp))
theorem ok_tenter (T : TCls K CT) (TF : FCls K C) (F : StM K CT "__enter__" "Trial.__enter__" sTEnter) : Mf P w K mg base CX0 1 CT "__enter__" ["self"] (spTEnter CT C) := by
  refine F.ok0 scTEnter (fun vs H Q E h => ?_) (fun _ _ _ _ _ _ us hl => match us, hl with | [_], _ => rfl) fun f cdv A outer s H vs Q E hr h => ?_
  · obtain ⟨t, dx, F, dF, vn, vc, mv, rfl, _⟩ := h
    rfl
  obtain ⟨t, dx, F, dF, vn, vc, mv, rfl, ht, hF, q⟩ := h
  refine ⟨_, pss_cons (ps_fld (pv 0) (pe_fld (pe_fld (pv 0) rfl) rfl) rfl) (pss_one (ps_ret (pe_fld (pv 0) rfl))), ?_⟩
  walk_at "nf"
  exact ⟨t, CT, dx, _, _, rfl, ht, T.cl, T.fl, rfl, F, C, dF, _, _, rfl, hF, TF.cl, TF.mom, rfl, t, CT, dx, _, rfl, ht, T.cl, T.mom, by simp [tF], t, CT, dx, _, _, rfl, upd_same, T.cl, T.fl, rfl, q _ (.upd (by simp)) upd_same⟩
theorem ok_texit (T : TCls K CT) (TF : FCls K C) (F : StM K CT "__exit__" "Trial.__exit__" sTExit) : MfW P w K mg base 1 CT "__exit__" ["self", "kind", "value", "trace"] (spTExit CT C) := by
  refine F.okW scTExit (fun vs H Q E h => ?_) (fun _ _ _ _ _ _ us hl => match us, hl with | [_, _, _, _], _ => rfl) fun f cdv A outer s H vs Q E hr h => ?_
  · obtain ⟨t, dx, F, dF, vn, vc, mv, mv2, k, v, tr, rfl, _⟩ := h
    rfl
  obtain ⟨t, dx, F, dF, vn, vc, mv, mv2, k, v, tr, rfl, ht, hF, q⟩ := h
  refine ⟨_, pss_one (ps_fld (pe_fld (pv 0) rfl) (pe_fld (pv 0) rfl) rfl), ?_⟩
  walk_at "nf"
  exact ⟨t, CT, dx, _, _, rfl, ht, T.cl, T.mom, rfl, t, CT, dx, _, _, rfl, ht, T.cl, T.fl, rfl, F, C, dF, _, rfl, hF, TF.cl, TF.mom, by simp [flF], q _ (.upd (by simp)) upd_same⟩
end
/-- rehearsed(fleet, lambda): the fleet is as before then, whatever the lambda did -/
def TTr (C : Addr) : V → (XK → Hp → V → VK → Prop) → Hp → VK → XK → Prop := fun v tl H Q Ex => ∃ (F : Addr) (vn vc : V) (ms : Mom), v = .ref F ∧ FlAt H C F vn vc ms ∧ ∀ H1, Same H H1 → ∀ R : VK, (∀ r H', Keep [F] H1 H' → (∃ ms', FlAt H' C F vn vc ms') → (∀ H2, Keep [F] H' H2 → FlAt H2 C F vn vc ms → Q r H2) → R r H') →
  tl (fun cls d H' => (∃ c, cls = .ref c) ∧ Keep [F] H1 H' ∧ (∃ ms', FlAt H' C F vn vc ms') ∧ ∀ H2, Keep [F] H' H2 → FlAt H2 C F vn vc ms → Ex cls d H2) H1 (.ref F) R
theorem reh_gives {X : Cx} {C CT : Addr} {q : Str} {k : Nat} (T : TCls X.K CT) (TF : FCls X.K C) (M : MkC X.K CT) (hT : X.mg "Trial" = some (.ref CT)) (GI : Mf X.prog X.w X.K X.mg X.base CX0 1 CT "__init__" ["self", "fleet"] (spTInit CT)) (GE : Mf X.prog X.w X.K X.mg X.base CX0 1 CT "__enter__" ["self"] (spTEnter CT C))
    (GX : MfW X.prog X.w X.K X.mg X.base 1 CT "__exit__" ["self", "kind", "value", "trace"] (spTExit CT C)) (hk : 2 ≤ k) : Gives1 X ["fleet", "steps", "found", "held"] "rehearsed" (defScope sReh) (defBody sReh) "steps" q k (TTr C) := by
  intro g cdg v f c' s H Q Ex tl hr act hc h
  obtain ⟨F, vn, vc, ms, rfl, ⟨dF, mv, hF, hm⟩, h⟩ := h
  refine ⟨_, pss_cons (ps_set (i := 2) scReh.nd rfl (Or.inl rfl) pe_non)
    (pss_cons (ps_withX (C := CT) (i := 3) (j := 1) rfl rfl rfl (takes_of rfl rfl rfl rfl) hr T.cl (pe_mk M GI hr hT pass0 (pa_cons (pv 0) pa_nil) (by omega)) GE GX (by omega) scReh.nd rfl (Or.inl rfl) fun W pn xe tk => pss_one (ps_set (i := 2) scReh.nd rfl (Or.inl rfl) (act W pn xe _ _ _ _ _ tk (pv 3))))
    (pss_one (ps_ret (pv 2)))), ?_⟩
  · walk_at "nf"
    simp only [tWith, dWith]
    walk_at "nf"
    intro t dx ht hdx hne
    have s0 : Same H (upd (upd H dx (.own t)) t (.ins CT dx [])) := (Same.new hdx).trans (.new (by rw [upd_ne hne.symm]; exact ht))
    refine ⟨t, dx, .ref F, rfl, upd_same, fun Ha ka ea => ⟨rfl, t, dx, _, rfl, ea, ?_⟩⟩
    have s1 : Same H Ha := fun a o e => ka a o (fun z => ne_of_none e ht (List.mem_singleton.mp z)) (s0 _ _ e)
    refine ⟨t, dx, F, dF, vn, vc, mv, rfl, ea, s1 _ _ hF, fun Hb kb eb => ?_⟩
    have s2 : Same H Hb := fun a o e => kb a o (fun z => ne_of_none e ht (List.mem_singleton.mp z)) (s1 _ _ e)
    have hFt : F ≠ t := ne_of_none hF ht
    have back : ∀ (H' : Hp) (ms' : Mom), Keep [F] Hb H' → FlAt H' C F vn vc ms' → ∀ (kk v tr : V) (R : VK), (∀ H2, Keep [F] H' H2 → FlAt H2 C F vn vc ms → R .non H2) → spTExit CT C [.ref t, kk, v, tr] H' R E0 := fun H' ms' k' fl' kk v tr R hR => by
      obtain ⟨d', mv', hF', hm'⟩ := fl'
      refine ⟨t, dx, F, d', vn, vc, mv, mv', kk, v, tr, rfl, k' _ _ (fun z => hFt (List.mem_singleton.mp z).symm) eb, hF', fun H2 k2 e2 => hR H2 k2 ⟨d', mv, e2, ?_⟩⟩
      have t1 : TupS Hb H' := k'.tupS fun a ha o ho => by
        rw [List.mem_singleton.mp ha, s2 _ _ hF] at ho
        cases ho
        rfl
      have t2 : TupS H' H2 := k2.tupS fun a ha o ho => by
        rw [List.mem_singleton.mp ha, hF'] at ho
        cases ho
        rfl
      exact ((hm.tup s2.tupS).tup t1).tup t2
    refine ⟨s2 _ _ hc, fun cls d H' => (∃ c, cls = .ref c) ∧ Keep [F] Hb H' ∧ (∃ ms', FlAt H' C F vn vc ms') ∧ ∀ H2, Keep [F] H' H2 → FlAt H2 C F vn vc ms → Ex cls d H2, fun cls d H' ⟨⟨c, ec⟩, k', ⟨ms', fl'⟩, hE⟩ => ⟨c, ec, fun e tr => back H' ms' k' fl' _ _ _ _ fun H2 k2 f2 => ⟨rfl, hE H2 k2 f2⟩⟩, h Hb s2 _ fun r H' k' ⟨ms', fl'⟩ hQ => back H' ms' k' fl' _ _ _ _ fun H2 k2 f2 => hQ H2 k2 f2⟩
end G3
end

/-! ## G3Caught -/
section
set_option Elab.async false
set_option linter.all false
set_option maxRecDepth 100000
set_option maxHeartbeats 4000000
local macro_rules | `(tactic| walk_at "nf") => `(tactic| simp only [L2.tRet, L2.tRetN, L2.tAndV, L2.tOrV, L2.tNotV, L2.tCB, L2.tCons, L2.tNil, L2.tVar, L2.tC, L2.tDIn, L2.tDNotIn, L2.tDGet, L2.tOp, L2.tUn, L2.tTest, L2.tB, L2.tIf, L2.tIfS, L2.tAnd, L2.tOr, L2.tNot, L2.tSeq, L2.tAsg, L2.gName, L2.tDrop, L2.tNext, L2.tCall, L2.tTup, L2.tLst, L2.tBM, L2.tBM0, L2.tSl, L2.tPart, L2.tNoPart, L2.sDPut, L2.tFld, L2.sFld, L2.tMeth, L2.tYes, L2.gTup, L2.gCons, L2.gNil, L2.tIsN, L2.tNotN, L2.tPar, L2.tPar3, L2.tDNewK, L2.tDisp, L2.tPairs, L2.tDGet1, StX.tStar, L2.gSub, L2.tProp, L2.tVeI, L2.tOst, L2.tMkO, L2.tDNewT, L2.tLock, G3.tFrzS, L2.tMake, L2.tDNewT, G3.lcL_fld, G3.lcT_fld, G3.forL_fld, G3.tListVals, G3.lc2T_op, G3.lc2L_call, L2.tGThen, L2.tG0, L2.tPlain, L2.GEnds.at, L2.tGYield, L2.tCallG, L2.tListG, G3.tTupIx, G3.dcT_op, G3.tFrz, G3.dcI_frz, G3.lcI_frz, G3.lcY_frz, G3.lcI_call, G3.lcT_lit, G3.forT_lit, G3.lcL_call, G3.lcL_op, G3.lcL_dget, G3.lcT_call, G3.lcT_op, G3.lcT_dget, G3.forL_call, G3.forL_op, G3.forL_dget, G3.forT_call, G3.forT_op, G3.forT_dget, G3.ex_l1, G3.ex_l2, G3.ex_l3,
  G3.start_eq, G3.cxOf_K, G3.wipe_nil, G3.wipe_cons, List.map_cons, List.map_nil, List.nil_append, List.cons_append, List.append_nil, List.getElem?_cons_zero, List.getElem?_cons_succ, List.set_cons_zero, List.set_cons_succ, List.set_nil, List.length_cons, List.length_nil, List.replicate, Option.some.injEq, G3.ex_eq, Nat.reduceAdd, Nat.reduceSub, Nat.zero_add, List.replicate_succ, List.replicate_zero, true_and, if_true, if_false, Bool.false_eq_true, Nat.add_zero, Int.add_zero])
namespace G3
open PySem PySem.Spec PyProof.Rows L2

abbrev sCaught : Stmt := top 73
theorem scCaught : FnScope ["_law_ask", "_law_caught_here", "error"] ["_law_ask"] (defScope sCaught) := ⟨rfl, rfl, rfl, by decide +kernel, rfl, by decide +kernel, by decide +kernel⟩
/-- _law_caught(lambda): None, or the error of the package -/
def TTc (K : PySem.W.Frag) (U : Addr) : (XK → Hp → VK → Prop) → Hp → VK → Prop := fun tl H Q => ∀ R : VK, (∀ r H', Q .non H' → R r H') →
  tl (fun cls _ H' => PySem.W.exmOne K cls (.ref U) = some true ∧ ∀ a, Q (.ref a) H') H R
theorem caught_gives {X : Cx} {U : Addr} {k : Nat} (hU : X.mg "UpgradeError" = some (.ref U)) : Gives0 X ["_law_ask", "_law_caught_here", "error"] "_law_caught" (defScope sCaught) (defBody sCaught) "_law_ask" k (TTc X.K U) := by
  intro g cdg f s H Q Cd tl hr act hc h
  refine ⟨_, pss_cons (ps_set (i := 1) scCaught.nd rfl (Or.inl rfl) pe_non)
    (pss_cons (ps_try_as (X := (cxOf L2.CX0 X.prog X.w X.K X.mg X.base ["_law_ask", "_law_caught_here", "error"] "_law_caught" (defScope sCaught) g cdg X.A X.stack s H L2.E0).nox) (i := 2) (c := .ref U)
        rfl rfl scCaught.nd rfl rfl ⟨rfl, by decide, .inl hU⟩ LamX.takes0 (fun W pn xe tk _ => pss_one (ps_expr (act W pn xe _ _ tk))) (fun a oe cls d pn _ _ => pss_one (ps_set (i := 1) scCaught.nd rfl (Or.inl rfl) (pv 2))))
    (pss_one (ps_ret (pv 1)))), ?_⟩
  · walk_at "nf"
    exact ⟨hc, fun cls _ H' => PySem.W.exmOne X.K cls (.ref U) = some true ∧ ∀ a, Q (.ref a) H', fun cls d H' ⟨e1, e2⟩ => ⟨true, e1, fun _ a _ => ⟨.ref a, rfl, .ref a, rfl, e2 a⟩, fun z => nomatch z⟩, h _ fun r H' q => q⟩
end G3
end

/-! ## G3Called -/
section
set_option Elab.async false
set_option linter.all false
set_option maxRecDepth 100000
set_option maxHeartbeats 4000000
local macro_rules | `(tactic| walk_at "nf") => `(tactic| simp only [C8.tCut, G3.tWith, G3.dWith, G3.tLam0, G3.tLam1, G3.TTc, G3.TTr, L2.tRet, L2.tRetN, L2.tAndV, L2.tOrV, L2.tNotV, L2.tCB, L2.tCons, L2.tNil, L2.tVar, L2.tC, L2.tDIn, L2.tDNotIn, L2.tDGet, L2.tOp, L2.tUn, L2.tTest, L2.tB, L2.tIf, L2.tIfS, L2.tAnd, L2.tOr, L2.tNot, L2.tSeq, L2.tAsg, L2.gName, L2.tDrop, L2.tNext, L2.tCall, L2.tTup, L2.tLst, L2.tBM, L2.tBM0, L2.tSl, L2.tPart, L2.tNoPart, L2.sDPut, L2.tFld, L2.sFld, L2.tMeth, L2.tYes, L2.gTup, L2.gCons, L2.gNil, L2.tIsN, L2.tNotN, L2.tPar, L2.tPar3, L2.tDNewK, L2.tDisp, L2.tPairs, L2.tDGet1, StX.tStar, L2.gSub, L2.tProp, L2.tVeI, L2.tOst, L2.tMkO, L2.tDNewT, L2.tLock, G3.tFrzS, L2.tMake, L2.tDNewT, G3.lcL_fld, G3.lcT_fld, G3.forL_fld, G3.tListVals, G3.lc2T_op, G3.lc2L_call, L2.tGThen, L2.tG0, L2.tPlain, L2.GEnds.at, L2.tGYield, L2.tCallG, L2.tListG, G3.tTupIx, G3.dcT_op, G3.tFrz, G3.dcI_frz, G3.lcI_frz, G3.lcY_frz, G3.lcI_call, G3.lcT_lit, G3.forT_lit, G3.lcL_call, G3.lcL_op, G3.lcL_dget, G3.lcT_call, G3.lcT_op, G3.lcT_dget, G3.forL_call, G3.forL_op, G3.forL_dget, G3.forT_call, G3.forT_op, G3.forT_dget, G3.ex_l1, G3.ex_l2, G3.ex_l3,
  G3.start_eq, G3.cxOf_K, G3.wipe_nil, G3.wipe_cons, List.map_cons, List.map_nil, List.nil_append, List.cons_append, List.append_nil, List.getElem?_cons_zero, List.getElem?_cons_succ, List.set_cons_zero, List.set_cons_succ, List.set_nil, List.length_cons, List.length_nil, List.replicate, Option.some.injEq, G3.ex_eq, Nat.reduceAdd, Nat.reduceSub, Nat.zero_add, List.replicate_succ, List.replicate_zero, true_and, if_true, if_false, Bool.false_eq_true, Nat.add_zero, Int.add_zero])
namespace G3
open PySem PySem.Spec PyProof.Rows L2

open LamX (CodeO TabS TabB ExtN lamS_by lamCx lamEnv)
abbrev sCalled : Stmt := top 74
theorem scCalled : FnScope ["_law_deck_here", "_law_held", "_law_net", "_law_rows", "_law_past", "_law_way", "_law_service", "_law_name", "_law_ahead", "_law_caught_here"] ["_law_deck_here", "_law_held", "_law_net", "_law_rows", "_law_past"] (defScope sCalled) := ⟨rfl, rfl, rfl, by decide +kernel, rfl, by decide +kernel, by decide +kernel⟩
/-- the lambdas' names -/
def qL1 : Str := (("_law_called" : Str) ++ ".<locals>.") ++ "<lambda>"
def qL2 : Str := (qL1 ++ ".<locals>.") ++ "<lambda>"
/-- the history of a fleet: the present moment first -/
structure Hist (n : Net) (c : Cat) (st0 : State) (k : Nat) (ms : Mom) : Prop where
  last : ms.getLast? = some (st0, [])
  run : ∀ q ∈ ms, Runs n c st0 q.2 q.1
  len : ∀ q ∈ ms, q.2.length ≤ 329 + k
  num : ms.length ≤ k + 1
section
variable {n : Net} {c : Cat} {st0 : State} {k : Nat} {ms : Mom} {q q2 : State × Log}
theorem Hist.mono (h : Hist n c st0 k ms) : Hist n c st0 (k + 1) ms := ⟨h.last, h.run, fun q hq => Nat.le_trans (h.len q hq) (by omega), Nat.le_trans h.num (by omega)⟩
theorem Hist.push (h : Hist n c st0 k ms) (r : Runs n c st0 q.2 q.1) (l : q.2.length ≤ 329 + (k + 1)) : Hist n c st0 (k + 1) (q :: ms) := by
  refine ⟨?_, fun p hp => ?_, fun p hp => ?_, by rw [List.length_cons]; exact Nat.succ_le_succ h.num⟩
  · have h1 := h.last
    cases ms with
    | nil => cases h1
    | cons a b => rw [List.getLast?_cons_cons]; exact h1
  · rcases List.mem_cons.mp hp with rfl | hp
    · exact r
    · exact h.run p hp
  · rcases List.mem_cons.mp hp with rfl | hp
    · exact l
    · exact Nat.le_trans (h.len p hp) (by omega)
theorem Hist.pop (h : Hist n c st0 k (q :: q2 :: ms)) : Hist n c st0 (k + 1) (q2 :: ms) :=
  ⟨by rw [← h.last, List.getLast?_cons_cons], fun p hp => h.run p (List.mem_cons_of_mem _ hp), fun p hp => Nat.le_trans (h.len p (List.mem_cons_of_mem _ hp)) (by omega), by have := h.num; rw [List.length_cons] at this; omega⟩
theorem Hist.ne (h : Hist n c st0 k ms) : ∃ q r, ms = q :: r := by
  have h1 := h.last
  cases ms with
  | nil => cases h1
  | cons a b => exact ⟨a, b, rfl⟩
end
/-- the moments ahead of the calls that can be undone, the first one first -/
def PastAt (H : Hp) (L : Addr) (ms : Mom) : Prop := ∃ pv, H L = some (.lst pv) ∧ Al H ms.tail.reverse pv
def KeepN (ps : List Addr) (H H' : Hp) : Prop := ∀ a o, a ∉ ps → H a = some o → (∀ q, o ≠ .tbl q) → H' a = some o
theorem KeepN.of {ps : List Addr} {H H' : Hp} (k : Keep ps H H') : KeepN ps H H' := fun a o h e _ => k a o h e
theorem KeepN.ext {ps : List Addr} {H H' : Hp} (k : ExtN H H') : KeepN ps H H' := fun a o _ e n => k a o e n
theorem KeepN.trans {ps : List Addr} {H H1 H2 : Hp} (a : KeepN ps H H1) (b : KeepN ps H1 H2) : KeepN ps H H2 := fun x o h e n => b x o h (a x o h e n) n
theorem KeepN.sub {ps qs : List Addr} {H H' : Hp} (k : KeepN ps H H') (h : ∀ a ∈ ps, a ∈ qs) : KeepN qs H H' := fun a o hn e n => k a o (fun z => hn (h a z)) e n
theorem KeepN.tupS {ps : List Addr} {H H' : Hp} (k : KeepN ps H H') (h : ∀ a ∈ ps, ∀ o, H a = some o → isSt o = false) : TupS H H' := fun a o e t => by
  by_cases hm : a ∈ ps
  · rw [h a hm o e] at t; cases t
  · exact k a o hm e (fun q z => by rw [z] at t; cases t)
theorem ext_tupS {H H' : Hp} (k : ExtN H H') : TupS H H' := fun a o e t => k a o e (fun q z => by rw [z] at t; cases t)
structure Errs (K : PySem.W.Frag) (U CB CU CM : Addr) : Prop where
  b : PySem.W.exmOne K (.ref CB) (.ref U) = some true
  u : PySem.W.exmOne K (.ref CU) (.ref U) = some true
  m : PySem.W.exmOne K (.ref CM) (.ref U) = some true
/-- what a call keeps: D the deck, F the fleet, L the list of past moments -/
structure Env7 (H0 H : Hp) (D F L P0 : Addr) (b : Nat) : Prop where
  keep : KeepN [D, F, L] H0 H
  tup : TupS H0 H
  deck : DeckAt H D b
  tab : TabS2 H P0 qL1 qL2
theorem DeckAt.keep {H H' : Hp} {D : Addr} {b : Nat} (h : DeckAt H D b) (e : ∀ o, H D = some o → H' D = some o) : DeckAt H' D b :=
  let ⟨o, sd, ct, q, z⟩ := h
  ⟨o, sd, ct, e _ q, z⟩
section
variable {H0 H H' : Hp} {D F L P0 : Addr} {b : Nat}
theorem Env7.same (h : Env7 H0 H D F L P0 b) (s : Same H H') : Env7 H0 H' D F L P0 b := ⟨h.keep.trans fun a o _ e _ => s a o e, h.tup.trans s.tupS, h.deck.keep (s D), h.tab.same s⟩
theorem Env7.updL {xs ys : List V} (h : Env7 H0 H D F L P0 b) (e : H L = some (.lst xs)) (n : D ≠ L) : Env7 H0 (upd H L (.lst ys)) D F L P0 b :=
  ⟨h.keep.trans fun a o ha e _ => by rw [upd_ne (fun z => ha (by simp [z]))]; exact e, h.tup.trans (.lst e), h.deck.keep fun o q => by rw [upd_ne n]; exact q, h.tab.keep fun a o q n1 _ => by
    by_cases z : a = L
    · rw [z, e] at q
      exact absurd (Option.some.inj q).symm (n1 xs)
    · rw [upd_ne z]; exact q⟩
theorem Env7.fleet {C dx : Addr} {fs : List (Str × V)} (h : Env7 H0 H D F L P0 b) (k : Keep [F] H H') (e : H F = some (.ins C dx fs)) (n : F ≠ D) : Env7 H0 H' D F L P0 b :=
  ⟨h.keep.trans fun a o ha q _ => k a o (fun z => ha (by rw [List.mem_singleton.mp z]; simp)) q, h.tup.trans (k.tupS fun a ha o ho => by
    rw [List.mem_singleton.mp ha, e] at ho
    cases ho
    rfl), h.deck.keep fun o q => k D o (fun z => n (List.mem_singleton.mp z).symm) q, h.tab.keep fun a o q _ n2 => k a o (fun z => by
    rw [List.mem_singleton.mp z, e] at q
    exact n2 _ _ _ (Option.some.inj q).symm) q⟩
theorem Env7.ext (h : Env7 H0 H D F L P0 b) (k : ExtN H H') (t : TabS2 H' P0 qL1 qL2) : Env7 H0 H' D F L P0 b :=
  ⟨h.keep.trans (.ext k), h.tup.trans (ext_tupS k), h.deck.keep fun o q => by
    obtain ⟨o', sd, ct, q', _⟩ := h.deck
    rw [q'] at q
    cases q
    exact k _ _ q' (fun _ z => nomatch z), t⟩
end
theorem al_unsnoc {α : Type} [Enc α] {H : Hp} {a : α} : ∀ {l : List α} {vs : List V}, Al H (l ++ [a]) vs → ∃ ws v, vs = ws ++ [v] ∧ Al H l ws ∧ At H a v
  | [], vs, h => by
    obtain ⟨v, vr, rfl, h1, h2⟩ := h
    rw [show vr = [] from h2]
    exact ⟨[], v, rfl, .nil, h1⟩
  | b :: l, vs, h => by
    obtain ⟨v, vr, rfl, h1, h2⟩ := h
    obtain ⟨ws, v', rfl, h3, h4⟩ := al_unsnoc (l := l) h2
    exact ⟨v :: ws, v', rfl, .cons h1 h3, h4⟩
theorem r_neLE {α : Type} [Enc α] [DecidableEq α] {K : PySem.W.Frag} {H : Hp} {l : List α} {L e : Addr} {pv : List V} {Q : VK} (h : H L = some (.lst pv)) (hx : Al H l pv) (he : H e = some (.lst [])) (ok : ∀ a ∈ l, Enc.ok a) (q : Q (.bl (!decide (l = []))) H) (hd : Enc.dep (List α) ≤ 64 := by decide) : rNeD K (.ref L) (.ref e) H Q := by
  refine ⟨.list (l.map Enc.enc), .list [], .lst (.of h) (IsL.dp _ _ hx), .lst (.of he) .nil, ?_, rfl, ?_⟩
  · have h1 : SeqAt.shaped (Enc.enc l) = true := shaped_of (a := l) ok hd
    unfold SeqAt.shaped at h1 ⊢
    rw [canL l ok, Bool.true_and]
    rw [Bool.and_eq_true] at h1
    exact decide_eq_true (of_decide_eq_true h1.2)
  · have e1 : PyData.eqv (.list (l.map Enc.enc)) (.list []) = decide (l = []) := by
      cases l with
      | nil => simp [PyData.eqv, PyData.eqvAll]
      | cons a b => simp [PyData.eqv, PyData.eqvAll]
    rw [e1]
    exact q
theorem mom_ok {H : Hp} {n : Net} {c : Cat} {vn vc : V} {st0 : State} {k : Nat} {ms : Mom} {q : State × Log} (fc : FC H n c vn vc) (so : StOk n c st0) (h : Hist n c st0 k ms) (hq : q ∈ ms) : Enc.ok q := by
  have r := h.run q hq
  have s1 := r.ok so
  exact ⟨fun x hx => names_ok fc.co (s1.sub x hx), fun p hp => ⟨fc.no.ok _ (r.rel p hp).1, names_ok fc.co (r.rel p hp).2⟩⟩
def spCalled (C P0 : Addr) : Sp := fun vs H Q _ => ∃ (D F L : Addr) (b k : Nat) (n : Net) (c : Cat) (vn vc : V) (st0 : State) (ms : Mom), vs = [.ref D, .ref F, vn, vc, .ref L] ∧ DeckAt H D b ∧ b ≤ 900000 ∧ FlAt H C F vn vc ms ∧ FC H n c vn vc ∧ c ≠ [] ∧ StOk n c st0 ∧ k ≤ 25 ∧ Hist n c st0 k ms ∧ PastAt H L ms ∧ D ≠ L ∧ TabS2 H P0 qL1 qL2 ∧
  ∀ ms' H', Hist n c st0 (k + 1) ms' → KeepN [D, F, L] H H' → DeckAt H' D (b + 3) → FlAt H' C F vn vc ms' → FC H' n c vn vc → PastAt H' L ms' → TabS2 H' P0 qL1 qL2 → Q (.bl true) H'
/-- the def whose code object's table is kept -/
def St0T (K : PySem.W.Frag) (mg : Str → Option Value) (base : Heap) (x : Str) (st : Stmt) (P0 : Addr) : Prop := ∃ f fd c0, mg x = some (.ref f) ∧ FunD K x x (defArgs st) (defBody st) (defScope st) [] [] f fd ∧ fd.code = .ref c0 ∧ TabB base mg c0 P0
section
variable {P : Program} {w : World} {K : PySem.W.Frag} {mg : Str → Option Value} {base : Heap} {C CB CU CM CT U P0 : Addr}
theorem St0T.ok0 {k : Nat} {x : Str} {st : Stmt} {N ps : List Str} {sp : Sp} (F : St0T K mg base x st P0) (S : FnScope N ps (defScope st)) (len : ∀ vs H Q E, sp vs H Q E → vs.length = ps.length)
    (hb : ∀ (kV doc pm : Value) (an : Option Addr) (cdv ct : Value) (us : List Value), us.length = ps.length → bindArgs (PySem.W.fnOf x x (defArgs st) (defBody st) (defScope st) .none kV doc pm an cdv ct) ⟨us, []⟩ = pure (ps.zip us))
    (hbody : ∀ (f c0 : Addr) (A : Around) (outer : List Env) (s : Shared) (H : Hp) (vs : List V) (Q : VK) (E : XK), TabB base mg c0 P0 → Room k (A.deeper (envOfC x (defScope st) s.heap.objs.size f (.ref c0))) → sp vs H Q E →
      ∃ t, PSs (cxOf CX0 P w K mg base N x (defScope st) f (.ref c0) A outer s H E).nox (defBody st) t ∧ t { nx := fun _ H' => Q .non H', rt := Q } (start N vs) H) : Df P w K mg base CX0 (k + 1) x ps sp := by
  obtain ⟨f, fd, c0, hm, F, hc, TB⟩ := F
  have hbn := F.bindsN hb
  obtain ⟨oc, od, dV, kV, doc, pm, an, cdv, ct, osl, rfl, lk, hcd, _, _⟩ := F.ex
  obtain rfl : cdv = .ref c0 := hc
  refine ⟨f, _, hm, F.kp, hbn, fn_of lk hcd S len fun A outer s H vs Q E hr h => ?_⟩
  obtain ⟨t, h1, h2⟩ := hbody f c0 A outer s H vs Q E TB hr h
  exact ⟨t, h1.nox, h2⟩
theorem ok_called (T0 : Bt mg) (T : FCls K C) (EE : Errs K U CB CU CM) (hU : mg "UpgradeError" = some (.ref U)) (GD : Df P w K mg base CX0 1 "_law_draw" ["_law_deck_here", "_law_many"] spDraw) (GA : Df P w K mg base CX0 2 "_law_any" ["_law_deck_here", "_law_items"] (spAny K))
    (GS : Pf P w K mg base CX0 1 C "state" ["self"] (spFState C)) (GM : Pf P w K mg base CX0 1 C "made" ["self"] (spFMade C)) (GL : Mf P w K mg base CX0 1 C "log" ["self"] (spFLog C)) (GU : Mf P w K mg base CX0 1 C "undo" ["self"] (spFUndo C))
    (GR : Mf P w K mg base (CX P w) 5 C "replace" ["self", "service", "release"] (spFReplace C CB)) (GG : Mf P w K mg base (CX P w) 119 C "upgrade" ["self", "end"] (spFUpgrade C CU CM))
    (TT : TCls K CT) (MT : MkC K CT) (hT : mg "Trial" = some (.ref CT)) (GI : Mf P w K mg base CX0 1 CT "__init__" ["self", "fleet"] (spTInit CT)) (GE : Mf P w K mg base CX0 1 CT "__enter__" ["self"] (spTEnter CT C)) (GX : MfW P w K mg base 1 CT "__exit__" ["self", "kind", "value", "trace"] (spTExit CT C))
    (FC_ : St0 K mg "_law_caught" sCaught) (FR : St0 K mg "rehearsed" sReh) (F : St0T K mg base "_law_called" sCalled P0) : Df P w K mg base CX0 122 "_law_called" ["_law_deck_here", "_law_held", "_law_net", "_law_rows", "_law_past"] (spCalled C P0) := by
  refine F.ok0 scCalled (fun vs H Q E h => ?_) (fun _ _ _ _ _ _ us hl => match us, hl with | [_, _, _, _, _], _ => rfl) fun f c0 A outer s H vs Q E TB hr h => ?_
  · obtain ⟨D, F, L, b, k, n, c, vn, vc, st0, ms, rfl, _⟩ := h
    rfl
  obtain ⟨D, F, L, b, k, n, c, vn, vc, st0, ms, rfl, hD, hb, hF, fc, cne, so, hk, hist, hL, hDL, hT2, q⟩ := h
  refine ⟨_, pss_cons (ps_asg (pe_tup (pa_cons (pe_df GD hr pass0 (pa_cons (pv 0) (pa_cons pe_int pa_nil))) (pa_cons (pe_df GA hr pass0 (pa_cons (pv 0) (pa_cons (eT K (pv 2) pe_int) pa_nil))) (pa_cons (eT K (pe_df GA hr pass0 (pa_cons (pv 0) (pa_cons (pv 3) pa_nil))) pe_int) pa_nil))))
      (pg_tup rfl (pgs_cons (pg_name (i := 5) scCalled.nd rfl (.inl rfl)) (pgs_cons (pg_name (i := 6) scCalled.nd rfl (.inr rfl)) (pgs_cons (pg_name (i := 7) scCalled.nd rfl (.inr rfl)) pgs_nil)))))
    (C8.pss_cut (ps_set (i := 8) scCalled.nd rfl (.inl rfl) (pe_tup (pa_cons (pe_pf (E := E0) GS T.cl hr (pv 1)) (pa_cons (pe_mf0 GL T.cl hr pass0 (pv 1) (by decide)) pa_nil))))
    (C8.pss_cut (ps_if (PW.pt (pw_and (pt_cmpR op_eq (pv 5) pe_int (nomark _)) (pw_and1 (pt_cmpR (opNeD K hr.units) (pv 4) (pe_lst pa_nil) (nomark _)))))
      (pss_cons (ps_expr (pe_mf0 GU T.cl hr pass0 (pv 1) (by decide)))
        (pss_one (ps_ret (pe_cmpR (opEqD K hr.units) (pe_tup (pa_cons (pe_pf (E := E0) GS T.cl hr (pv 1)) (pa_cons (pe_mf0 GL T.cl hr pass0 (pv 1) (by decide)) pa_nil))) (pe_bm0 PySem.F.plainAttrs_list PySem.F.slot_list_pop PySem.F.type_list_pop mt_pop (pv 4)) (nomark _)))))
      pss_nil)
    (C8.pss_cut (ps_if (PW.pt (pw_and (pt_cmpR op_eq (pv 5) pe_int (nomark _)) (pw_and1 (pt_cmpR op_lt (pe_pf (E := E0) GM T.cl hr (pv 1)) pe_int (nomark _)))))
      (C8.pss_cut (ps_set (i := 9) scCalled.nd rfl (.inl rfl) (pe_lam0 (k := 119) (q2 := qL2) FC_ scCaught (fun _ _ _ _ _ _ us hl => match us, hl with | [_], _ => rfl) rfl (.inl rfl) (caught_gives hU) TB rfl hr (lamS_by (sc := defScope sCalled) (by decide +kernel)) rfl (fun _ _ _ _ _ => rfl) (fun A' outer' s' H' E' f' c' Pc hr' => pe_mf GG T.cl hr' (passes_call (takes_of rfl rfl rfl rfl) fun _ _ _ _ h => h) (pv 1) (pa_cons (pv 7) pa_nil) (by decide))))
        (pss_cons (ps_expr (pe_bm PySem.F.plainAttrs_list PySem.F.slot_list_extend PySem.F.type_list_extend mt_extend (pv 4) (pa_cons (pe_ifExp (pt_cmpR op_isN (pv 9) pe_non (nomark _)) (pe_lst (pa_cons (pv 8) pa_nil)) (pe_lst pa_nil)) pa_nil)))
        (pss_one (ps_ret (pe_or (pe_cmpR op_isN (pv 9) pe_non (nomark _)) (pe_one (pe_cmpR (opEqD K hr.units) (pe_tup (pa_cons (pe_pf (E := E0) GS T.cl hr (pv 1)) (pa_cons (pe_mf0 GL T.cl hr pass0 (pv 1) (by decide)) pa_nil))) (pv 8) (nomark _))))))))
      pss_nil)
    (C8.pss_cut (ps_if (pt_cmpR op_eq (pv 5) pe_int (nomark _))
      (pss_cons (ps_expr (pe_lam0 (t := fun E c1 Pc => tLam1 P0 c1 Pc qL1 qL1 qL2 (tVar 1) (TTr C) (fun E2 => tMeth C "replace" (spFReplace C CB) [] E2 (tVar 10) (tCons (tVar 6) (tCons (tVar 7) tNil))) E) (k := 119) (q2 := qL2) FC_ scCaught (fun _ _ _ _ _ _ us hl => match us, hl with | [_], _ => rfl) rfl (.inl rfl) (caught_gives hU) TB rfl hr (lamS_by (sc := defScope sCalled) (by decide +kernel)) rfl (fun _ _ _ _ _ => rfl) (fun A' outer' s' H' E' f' c' Pc hr' => ?_)))
        (pss_one (ps_ret (pe_cmpR (opEqD K hr.units) (pe_tup (pa_cons (pe_pf (E := E0) GS T.cl hr (pv 1)) (pa_cons (pe_mf0 GL T.cl hr pass0 (pv 1) (by decide)) pa_nil))) (pv 8) (nomark _)))))
      pss_nil)
    (C8.pss_cut (ps_set (i := 9) scCalled.nd rfl (.inl rfl) (pe_lam0 (k := 119) (q2 := qL2) FC_ scCaught (fun _ _ _ _ _ _ us hl => match us, hl with | [_], _ => rfl) rfl (.inl rfl) (caught_gives hU) TB rfl hr (lamS_by (sc := defScope sCalled) (by decide +kernel)) rfl (fun _ _ _ _ _ => rfl) (fun A' outer' s' H' E' f' c' Pc hr' => pe_mf GR T.cl hr' (passes_call (takes_of rfl rfl rfl rfl) fun _ _ _ _ h => h) (pv 1) (pa_cons (pv 6) (pa_cons (pv 7) pa_nil)) (by decide))))
        (pss_cons (ps_expr (pe_bm PySem.F.plainAttrs_list PySem.F.slot_list_extend PySem.F.type_list_extend mt_extend (pv 4) (pa_cons (pe_ifExp (pt_cmpR op_isN (pv 9) pe_non (nomark _)) (pe_lst (pa_cons (pv 8) pa_nil)) (pe_lst pa_nil)) pa_nil)))
        (pss_one (ps_ret (pe_or (pe_cmpR op_isN (pv 9) pe_non (nomark _)) (pe_one (pe_cmpR (opEqD K hr.units) (pe_tup (pa_cons (pe_pf (E := E0) GS T.cl hr (pv 1)) (pa_cons (pe_mf0 GL T.cl hr pass0 (pv 1) (by decide)) pa_nil))) (pv 8) (nomark _)))))))))))), ?_⟩
  · refine pe_lam1 (y := "_law_one") (k := 117) (q := qL1) (q1 := qL1) FR scReh (fun _ _ _ _ _ _ us hl => match us, hl with | [_, _], _ => rfl) rfl (.inl rfl) (reh_gives TT T MT hT GI GE GX (by decide)) TB rfl hr' (lamS1_by ?_) ?_ rfl (passes_call (takes_of rfl rfl rfl rfl) fun _ _ _ _ h => h) (pv 1) (fun _ _ _ _ _ _ => rfl) (fun A2 outer2 s2 H2 E2 f2 c2 hr2 => pe_mf GR T.cl hr2 (passes_call (takes_of rfl rfl rfl rfl) fun _ _ _ _ h => h) (pv 10) (pa_cons (pv 6) (pa_cons (pv 7) pa_nil)) (by decide))
    · rfl
    · show ("_law_one" : Str) ∉ (["_law_deck_here", "_law_held", "_law_net", "_law_rows", "_law_past", "_law_way", "_law_service", "_law_name", "_law_ahead", "_law_caught_here"] : List Str)
      decide +kernel
  walk_at "nf"
  obtain ⟨qm, rest, rfl⟩ := hist.ne
  obtain ⟨pv, hLp, hpv⟩ := hL
  have hpv : Al H rest.reverse pv := hpv
  have pvN : Al H rest.reverse (pv ++ []) := by rw [List.append_nil]; exact hpv
  obtain ⟨pc, oc, cxs, rfl, ec, ed, hcx⟩ := id fc.cat
  obtain ⟨own, seed, cnt, hDo, hD2⟩ := id hD
  have tD : ∀ {H' : Hp}, Keep [D] H H' → TupS H H' := fun k => k.tupS fun a ha o ho => by
    rw [List.mem_singleton.mp ha, hDo] at ho
    cases ho
    rfl
  have hFD : F ≠ D := fun z => by
    obtain ⟨dx, mv, e, _⟩ := hF
    rw [z, hDo] at e
    cases e
  have hFL : F ≠ L := fun z => by
    obtain ⟨dx, mv, e, _⟩ := hF
    rw [z, hLp] at e
    cases e
  have qok : Enc.ok qm := mom_ok fc so hist List.mem_cons_self
  have sq : StOk n c qm.1 := (hist.run qm List.mem_cons_self).ok so
  have fl_ : ∀ {H' : Hp}, Keep [D] H H' → FlAt H' C F vn (.ref pc) (qm :: rest) := fun k => hF.keep k (tD k) (by simpa using hFD)
  refine ⟨D, b, 8, rfl, hD, by omega, by decide, by decide, fun r H1 r0 r8 k1 d1 => ?_⟩
  refine r_p0 (fc.tup (tD k1)).net.1 fun w1 hw1 => ?_
  obtain ⟨pn, rfl, hpn⟩ := at_strs.mp hw1
  have dD1 : ∃ xs, H1 D = some (.lst xs) := let ⟨_, _, _, e, _⟩ := d1; ⟨_, e⟩
  have tD1 : ∀ {H' : Hp}, Keep [D] H1 H' → TupS H1 H' := fun k => k.tupS fun a ha o ho => by
    obtain ⟨xs, e⟩ := dD1
    rw [List.mem_singleton.mp ha, e] at ho
    cases ho
    rfl
  refine ⟨D, pn, b + 1, n.1.map V.str, rfl, d1, by omega, fun z => fc.no.ne (List.map_eq_nil_iff.mp z), by rw [List.length_map]; exact Nat.le_trans fc.no.len (by decide), .inr fun H' k => .inl (rd_tup hpn (tD1 k)), fun v H2 hv k2 d2 => ?_⟩
  obtain ⟨sv, hsv, rfl⟩ := List.mem_map.mp hv
  have k12 := k1.trans k2
  have frz_ : ∀ {H' : Hp}, Keep [D] H H' → H' pc = some (.frz oc (.tup cxs)) := fun k => tD k _ _ ec rfl
  refine ⟨D, pc, b + 2, cxs, rfl, d2, by omega, fun z => cne (by
      have := Al.len hcx
      rw [z] at this
      exact List.length_eq_zero_iff.mp this.symm), by rw [Al.len hcx]; exact Nat.le_trans fc.co.len (by decide), .inr fun H' k => .inl (.inr ⟨oc, frz_ (k12.trans k)⟩), fun v H3 hv k3 d3 => ?_⟩
  obtain ⟨i, hi⟩ := List.mem_iff_getElem?.mp hv
  obtain ⟨pr, hpr, hpa⟩ := Al.get hcx hi
  have k13 := k12.trans k3
  refine r_p0 (a := pr.1) (b := pr.2) (hpa.tup (tD k13)) fun w2 hw2 => ?_
  rw [at_str.mp hw2]
  have hx : pr.1 ∈ c.map (·.1) := List.mem_map.mpr ⟨pr, List.mem_of_getElem? hpr, rfl⟩
  refine ⟨by decide, fun p hp => ⟨p, _, rfl, .of upd_same, rfl, _, _, rfl, _, _, rfl, _, _, rfl, rfl, ?_⟩⟩
  have s4 : Same H3 (upd H3 p (.tup [.int r, .str sv, .str pr.1])) := .new hp
  have d4 : DeckAt (upd H3 p (.tup [.int r, .str sv, .str pr.1])) D (b + 3) := d3.keep (s4 D)
  generalize upd H3 p (.tup [.int r, .str sv, .str pr.1]) = H4 at s4 d4
  have k14 : Keep [D] H H4 := k13.trans (.same s4)
  generalize pr.1 = x at hx
  have e14 : Env7 H H4 D F L P0 (b + 3) := ⟨fun a o ha e _ => k14 a o (fun z => ha (by rw [List.mem_singleton.mp z]; simp)) e, tD k14, d4, hT2.keep fun a o e n1 _ => k14 a o (fun z => by
    rw [List.mem_singleton.mp z, hDo] at e
    exact n1 _ (Option.some.inj e).symm) e⟩
  have l14 : H4 L = some (.lst pv) := k14 _ _ (fun z => hDL (List.mem_singleton.mp z).symm) hLp
  have f14 := fl_ k14
  have fcA : ∀ {H' : Hp}, Env7 H H' D F L P0 (b + 3) → FC H' n c vn (.ref pc) := fun e => fc.tup e.tup
  have pvA : ∀ {H' : Hp}, Env7 H H' D F L P0 (b + 3) → Al H' rest.reverse pv := fun e => hpv.tup e.tup
  have pokA : ∀ a ∈ rest.reverse, Enc.ok a := fun a ha => mom_ok fc so hist (List.mem_cons_of_mem _ (List.mem_reverse.mp ha))
  clear tD1 frz_ fl_
  refine ⟨fun σ H' => ∃ (r : Int) (s x : Str) (pa : Addr), σ = [some (.ref D), some (.ref F), some vn, some (.ref pc), some (.ref L), some (.int r), some (.str s), some (.str x), some (.ref pa), none] ∧ Env7 H H' D F L P0 (b + 3) ∧ FlAt H' C F vn (.ref pc) (qm :: rest) ∧ H' L = some (.lst pv) ∧ At H' qm (.ref pa) ∧ s ∈ n.1 ∧ x ∈ c.map (·.1), ?_, fun σ' H' hM => ?_⟩
  · obtain ⟨dx, mv, hF4, _⟩ := id f14
    refine ⟨F, dx, _, rfl, hF4, F, vn, .ref pc, qm, rest, rfl, f14, fun u hu => ⟨F, dx, _, rfl, hF4, rfl, F, vn, .ref pc, qm, rest, rfl, f14, fun u2 hu2 => ⟨by decide, fun p hp => ⟨r, sv, x, p, rfl, e14.same (.new hp), f14.same (.new hp), Same.new hp _ _ l14, at_new2 hp hu hu2, hsv, hx⟩⟩⟩⟩
  clear e14 l14 f14 k14 d4 s4 hx
  obtain ⟨r, s, x, pa, rfl, e5, f5, l5, a5, hs5, hx5⟩ := hM
  walk_at "nf"
  -- undo
  refine ⟨fun σ H' => ∃ (r : Int) (s x : Str) (pa : Addr), σ = [some (.ref D), some (.ref F), some vn, some (.ref pc), some (.ref L), some (.int r), some (.str s), some (.str x), some (.ref pa), none] ∧ Env7 H H' D F L P0 (b + 3) ∧ FlAt H' C F vn (.ref pc) (qm :: rest) ∧ H' L = some (.lst pv) ∧ At H' qm (.ref pa) ∧ s ∈ n.1 ∧ x ∈ c.map (·.1), ⟨rfl, _, rfl, ?_⟩, fun σ' H' hM => ?_⟩
  · by_cases hr0 : r = 0
    · refine iteT' (by rw [hr0]; rfl) ⟨by decide, fun e he => ?_⟩
      have s6 : Same H' (upd H' e (.lst [])) := .new he
      have e6 := e5.same s6
      have he6 : upd H' e (.lst []) e = some (.lst []) := upd_same
      generalize upd H' e (.lst []) = H6 at s6 e6 he6
      have l6 := s6 _ _ l5
      have f6 := f5.same s6
      refine r_neLE (l := rest.reverse) l6 (pvA e6) he6 pokA ⟨_, rfl, ?_⟩
      cases hre : rest with
      | nil => exact iteF' (by simp) ⟨r, s, x, pa, rfl, e6, by rw [← hre]; exact f6, l6, a5.same s6, hs5, hx5⟩
      | cons q2 rest2 =>
        subst hre
        obtain ⟨dx6, mv6, hF6, _⟩ := id f6
        refine iteT' (by simp) ⟨F, dx6, _, rfl, hF6, rfl, F, vn, .ref pc, qm, q2, rest2, rfl, f6, fun H7 k7 f7 => ?_⟩
        have e7 := e6.fleet k7 hF6 hFD
        have l7 : H7 L = some (.lst pv) := k7 _ _ (fun z => hFL (List.mem_singleton.mp z).symm) l6
        obtain ⟨dx7, mv7, hF7, _⟩ := id f7
        refine ⟨F, dx7, _, rfl, hF7, F, vn, .ref pc, q2, rest2, rfl, f7, fun u hu => ⟨F, dx7, _, rfl, hF7, rfl, F, vn, .ref pc, q2, rest2, rfl, f7, fun u2 hu2 => ⟨by decide, fun p hp => ?_⟩⟩⟩
        have s8 : Same H7 (upd H7 p (.tup [u, u2])) := .new hp
        have a8 : At (upd H7 p (.tup [u, u2])) q2 (.ref p) := at_new2 hp hu hu2
        generalize upd H7 p (.tup [u, u2]) = H8 at s8 a8
        have e8 := e7.same s8
        have l8 := s8 _ _ l7
        have hpv8 := pvA e8
        rw [List.reverse_cons] at hpv8
        obtain ⟨ws, y, rfl, hws, hy⟩ := al_unsnoc hpv8
        refine ⟨.inl ⟨rfl, _, .of l8⟩, L, ws ++ [y], y, rfl, rfl, l8, by simp, ?_⟩
        rw [List.dropLast_concat]
        have e9 := e8.updL (ys := ws) l8 hDL
        have t9 : TupS H8 (upd H8 L (.lst ws)) := .lst l8
        have q2ok : Enc.ok q2 := mom_ok fc so hist (by simp)
        refine r_eq (a8.tup t9) (hy.tup t9) q2ok q2ok ?_
        rw [decide_eq_true rfl]
        refine q (q2 :: rest2) _ hist.pop e9.keep e9.deck (f7.same s8 |>.keep (ps := [L]) (.upd (by simp)) t9 (by simpa using hFL)) (fcA e9) ⟨ws, upd_same, hws.tup t9⟩ e9.tab
    · exact iteF' (decide_eq_false fun z => hr0 (V.int.inj z)) ⟨r, s, x, pa, rfl, e5, f5, l5, a5, hs5, hx5⟩
  clear e5 f5 l5 a5 hs5 hx5
  obtain ⟨r, s, x, pa, rfl, e5, f5, l5, a5, hs5, hx5⟩ := hM
  walk_at "nf"
  -- upgrade
  refine ⟨fun σ H' => ∃ (r : Int) (s x : Str) (pa : Addr), σ = [some (.ref D), some (.ref F), some vn, some (.ref pc), some (.ref L), some (.int r), some (.str s), some (.str x), some (.ref pa), none] ∧ Env7 H H' D F L P0 (b + 3) ∧ FlAt H' C F vn (.ref pc) (qm :: rest) ∧ H' L = some (.lst pv) ∧ At H' qm (.ref pa) ∧ s ∈ n.1 ∧ x ∈ c.map (·.1), ⟨rfl, _, rfl, ?_⟩, fun σ' H' hM => ?_⟩
  · by_cases hr1 : r = 1
    · obtain ⟨dx5, mv5, hF5, _⟩ := id f5
      refine iteT' (by rw [hr1]; rfl) ⟨F, dx5, _, rfl, hF5, F, vn, .ref pc, qm, rest, rfl, f5, _, _, rfl, rfl, _, rfl, ?_⟩
      by_cases hlen : qm.2.length < 100
      · refine iteT' (decide_eq_true (by omega)) ⟨fun σ H' => ∃ (r : Int) (s x : Str) (pa : Addr) (v : V), σ = [some (.ref D), some (.ref F), some vn, some (.ref pc), some (.ref L), some (.int r), some (.str s), some (.str x), some (.ref pa), some v] ∧ Env7 H H' D F L P0 (b + 3) ∧ H' L = some (.lst pv) ∧ At H' qm (.ref pa) ∧ ((v = .non ∧ ∃ q', Hist n c st0 (k + 1) (q' :: qm :: rest) ∧ FlAt H' C F vn (.ref pc) (q' :: qm :: rest)) ∨ ∃ a, v = .ref a ∧ FlAt H' C F vn (.ref pc) (qm :: rest)), ⟨e5.tab, fun c' Pc H6 x6 t6 _ _ _ R hR => ?_⟩, fun σ' H' hM => ?_⟩
        · have e6 := e5.ext x6 t6
          have hF6 : H6 F = _ := x6 _ _ hF5 (fun _ z => nomatch z)
          have f6 : FlAt H6 C F vn (.ref pc) (qm :: rest) := by
            obtain ⟨dx', mv', hF', hm'⟩ := f5
            exact ⟨dx', mv', x6 _ _ hF' (fun _ z => nomatch z), hm'.tup (ext_tupS x6)⟩
          have l6 : H6 L = some (.lst pv) := x6 _ _ l5 (fun _ z => nomatch z)
          have a6 := a5.tup (ext_tupS x6)
          refine ⟨F, dx5, _, rfl, hF6, rfl, F, n, c, vn, .ref pc, qm, rest, x, rfl, f6, fcA e6, sq, hx5, by omega, fun i l H7 hrun hl k7 f7 => hR _ H7 ?_, fun cl dd H7 hcl s7 => ⟨?_, fun a => ?_⟩⟩
          · have e7 := e6.fleet k7 hF6 hFD
            refine ⟨r, s, x, pa, .non, rfl, e7, k7 _ _ (fun z => hFL (List.mem_singleton.mp z).symm) l6, a6.tup (k7.tupS fun a ha o ho => by
              rw [List.mem_singleton.mp ha, hF6] at ho
              cases ho
              rfl), .inl ⟨rfl, _, hist.push ((hist.run qm List.mem_cons_self).app hrun) ?_, f7⟩⟩
            show (qm.2 ++ l).length ≤ _
            rw [List.length_append]
            omega
          · rcases hcl with rfl | rfl
            · exact EE.u
            · exact EE.m
          · exact ⟨r, s, x, pa, .ref a, rfl, e6.same s7, s7 _ _ l6, a6.same s7, .inr ⟨a, rfl, f6.same s7⟩⟩
        · clear e5 f5 l5 a5 hs5 hx5 hF5
          obtain ⟨r, s, x, pa, v, rfl, e8, l8, a8, hv8⟩ := hM
          walk_at "nf"
          refine ⟨.inl ⟨rfl, _, .of l8⟩, ?_⟩
          rcases hv8 with ⟨rfl, q', hh, f8⟩ | ⟨a, rfl, f8⟩
          · refine ⟨_, rfl, iteT' (by decide) ⟨by decide, fun e he => ?_⟩⟩
            have s9 : Same _ _ := Same.new (o := .lst [.ref pa]) he
            have l9 := s9 _ _ l8
            have lenp : pv.length ≤ 26 := by
              rw [Al.len hpv, List.length_reverse]
              have := hist.num
              rw [List.length_cons] at this
              omega
            refine ⟨L, e, pv, [.ref pa], rfl, rfl, l9, upd_same, by rw [List.length_singleton]; exact Nat.le_trans (Nat.succ_le_succ lenp) (by decide), ⟨_, rfl, iteT' (by decide) ?_⟩⟩
            have e9 := e8.same s9
            have e10 := e9.updL (ys := pv ++ [.ref pa]) l9 hDL
            have t10 : TupS _ _ := TupS.lst (u := .lst (pv ++ [.ref pa])) l9
            refine q (q' :: qm :: rest) _ hh e10.keep e10.deck ((f8.same s9).keep (ps := [L]) (.upd (by simp)) t10 (by simpa using hFL)) (fcA e10) ⟨_, upd_same, ?_⟩ e10.tab
            rw [List.tail_cons, List.reverse_cons]
            exact (pvA e10).snoc ((a8.same s9).tup t10)
          · refine ⟨_, rfl, iteF' (by simp) ⟨by decide, fun e he => ?_⟩⟩
            have s9 : Same _ _ := Same.new (o := .lst []) he
            have l9 := s9 _ _ l8
            refine ⟨L, e, pv, [], rfl, rfl, l9, upd_same, by
              rw [Al.len hpv, List.length_reverse, List.length_nil]
              have := hist.num
              rw [List.length_cons] at this
              exact Nat.le_trans (show rest.length + 0 ≤ 26 by omega) (by decide), ⟨_, rfl, iteF' (by simp) ?_⟩⟩
            have e9 := e8.same s9
            have e10 := e9.updL (ys := pv ++ []) l9 hDL
            have t10 : TupS _ _ := TupS.lst (u := .lst (pv ++ [])) l9
            have f10 := (f8.same s9).keep (ps := [L]) (.upd (a := L) (o := .lst (pv ++ [])) (by simp)) t10 (by simpa using hFL)
            obtain ⟨dxp, mvp, hFp, _⟩ := id f10
            refine ⟨F, dxp, _, rfl, hFp, F, vn, .ref pc, qm, rest, rfl, f10, fun u hu => ⟨F, dxp, _, rfl, hFp, rfl, F, vn, .ref pc, qm, rest, rfl, f10, fun u2 hu2 => ⟨by decide, fun p hp => ?_⟩⟩⟩
            have sp := Same.new (o := .tup [u, u2]) hp
            refine r_eq (at_new2 hp hu hu2) ((((a8.same s9).tup t10)).same sp) qok qok ?_
            rw [decide_eq_true rfl]
            have e11 := e10.same sp
            exact q (qm :: rest) _ hist.mono e11.keep e11.deck (f10.same sp) (fcA e11) ⟨_, sp _ _ upd_same, pvN.tup e11.tup⟩ e11.tab
      · exact iteF' (decide_eq_false (by omega)) ⟨r, s, x, pa, rfl, e5, f5, l5, a5, hs5, hx5⟩
    · exact iteF' (decide_eq_false fun z => hr1 (V.int.inj z)) ⟨r, s, x, pa, rfl, e5, f5, l5, a5, hs5, hx5⟩
  clear e5 f5 l5 a5 hs5 hx5
  obtain ⟨r, s, x, pa, rfl, e5, f5, l5, a5, hs5, hx5⟩ := hM
  walk_at "nf"
  -- a trial
  refine ⟨fun σ H' => ∃ (r : Int) (s x : Str) (pa : Addr), σ = [some (.ref D), some (.ref F), some vn, some (.ref pc), some (.ref L), some (.int r), some (.str s), some (.str x), some (.ref pa), none] ∧ Env7 H H' D F L P0 (b + 3) ∧ FlAt H' C F vn (.ref pc) (qm :: rest) ∧ H' L = some (.lst pv) ∧ At H' qm (.ref pa) ∧ s ∈ n.1 ∧ x ∈ c.map (·.1), ⟨rfl, _, rfl, ?_⟩, fun σ' H' hM => ?_⟩
  · by_cases hr2 : r = 2
    · refine iteT' (by rw [hr2]; rfl) ⟨e5.tab, fun c' Pc H6 x6 t6 hc6 hs6 hne R hR => ⟨hc6, t6, hs6, hne, fun H7 x7 t7 => ?_⟩⟩
      obtain ⟨dx5, mv5, hF5, _⟩ := id f5
      have e7 := (e5.ext x6 t6).ext x7 t7
      have x57 := x6.trans x7
      have hF7 : H7 F = _ := x57 _ _ hF5 (fun _ z => nomatch z)
      have f7 : FlAt H7 C F vn (.ref pc) (qm :: rest) := by
        obtain ⟨dx', mv', hF', hm'⟩ := f5
        exact ⟨dx', mv', x57 _ _ hF' (fun _ z => nomatch z), hm'.tup (ext_tupS x57)⟩
      have l7 : H7 L = some (.lst pv) := x57 _ _ l5 (fun _ z => nomatch z)
      have a7 := a5.tup (ext_tupS x57)
      have hql := hist.len qm List.mem_cons_self
      have tF : ∀ {HA HB : Hp}, HA F = some (.ins C dx5 (flF vn (.ref pc) mv5)) → Keep [F] HA HB → TupS HA HB := fun e k => k.tupS fun a ha o ho => by
        rw [List.mem_singleton.mp ha, e] at ho
        cases ho
        rfl
      have nFL : L ∉ [F] := fun z => hFL (List.mem_singleton.mp z).symm
      refine ⟨F, vn, .ref pc, qm :: rest, rfl, f7, fun H8 s8 R1 hR1 => ⟨F, dx5, _, rfl, s8 _ _ hF7, rfl, F, n, c, vn, .ref pc, qm, rest, s, x, rfl, f7.same s8, fcA (e7.same s8), sq, hs5, hx5, by omega, fun st' H9 hrep k9 f9 => hR1 .non H9 k9 ⟨_, f9⟩ fun H10 k10 f10 => hR _ H10 ?_, fun _ dd H9 s9 => ⟨⟨CB, rfl⟩, .same s9, ⟨_, (f7.same s8).same s9⟩, fun H10 k10 f10 => ⟨EE.b, fun a => ?_⟩⟩⟩⟩
      · have e8 := e7.same s8
        have e9 := e8.fleet k9 (s8 _ _ hF7) hFD
        obtain ⟨dx9, mv9, hF9, _⟩ := id f9
        have e10 := e9.fleet k10 hF9 hFD
        have t9 := tF (s8 _ _ hF7) k9
        have t10 : TupS H9 H10 := k10.tupS fun a ha o ho => by
          rw [List.mem_singleton.mp ha, hF9] at ho
          cases ho
          rfl
        have l10 : H10 L = some (.lst pv) := k10 _ _ nFL (k9 _ _ nFL (s8 _ _ l7))
        obtain ⟨dxp, mvp, hFp, _⟩ := id f10
        refine ⟨F, dxp, _, rfl, hFp, F, vn, .ref pc, qm, rest, rfl, f10, fun u hu => ⟨F, dxp, _, rfl, hFp, rfl, F, vn, .ref pc, qm, rest, rfl, f10, fun u2 hu2 => ⟨by decide, fun p hp => ?_⟩⟩⟩
        have sp := Same.new (o := .tup [u, u2]) hp
        refine r_eq (at_new2 hp hu hu2) (((((a7.same s8).tup t9).tup t10)).same sp) qok qok ?_
        rw [decide_eq_true rfl]
        have e11 := e10.same sp
        exact q (qm :: rest) _ hist.mono e11.keep e11.deck (f10.same sp) (fcA e11) ⟨_, sp _ _ l10, pvA e11⟩ e11.tab
      · have e9 := (e7.same s8).same s9
        have hF9 := s9 _ _ (s8 _ _ hF7)
        have e10 := e9.fleet k10 hF9 hFD
        have t10 := tF hF9 k10
        have l10 : H10 L = some (.lst pv) := k10 _ _ nFL (s9 _ _ (s8 _ _ l7))
        obtain ⟨dxp, mvp, hFp, _⟩ := id f10
        refine ⟨F, dxp, _, rfl, hFp, F, vn, .ref pc, qm, rest, rfl, f10, fun u hu => ⟨F, dxp, _, rfl, hFp, rfl, F, vn, .ref pc, qm, rest, rfl, f10, fun u2 hu2 => ⟨by decide, fun p hp => ?_⟩⟩⟩
        have sp := Same.new (o := .tup [u, u2]) hp
        refine r_eq (at_new2 hp hu hu2) (((((a7.same s8).same s9).tup t10)).same sp) qok qok ?_
        rw [decide_eq_true rfl]
        have e11 := e10.same sp
        exact q (qm :: rest) _ hist.mono e11.keep e11.deck (f10.same sp) (fcA e11) ⟨_, sp _ _ l10, pvA e11⟩ e11.tab
    · exact iteF' (decide_eq_false fun z => hr2 (V.int.inj z)) ⟨r, s, x, pa, rfl, e5, f5, l5, a5, hs5, hx5⟩
  clear e5 f5 l5 a5 hs5 hx5
  obtain ⟨r, s, x, pa, rfl, e5, f5, l5, a5, hs5, hx5⟩ := hM
  walk_at "nf"
  -- a replacement
  refine ⟨fun σ H' => ∃ (r : Int) (s x : Str) (pa : Addr) (v : V), σ = [some (.ref D), some (.ref F), some vn, some (.ref pc), some (.ref L), some (.int r), some (.str s), some (.str x), some (.ref pa), some v] ∧ Env7 H H' D F L P0 (b + 3) ∧ H' L = some (.lst pv) ∧ At H' qm (.ref pa) ∧ ((v = .non ∧ ∃ q', Hist n c st0 (k + 1) (q' :: qm :: rest) ∧ FlAt H' C F vn (.ref pc) (q' :: qm :: rest)) ∨ ∃ a, v = .ref a ∧ FlAt H' C F vn (.ref pc) (qm :: rest)), ⟨e5.tab, fun c' Pc H6 x6 t6 _ _ _ R hR => ?_⟩, fun σ' H' hM => ?_⟩
  · obtain ⟨dx5, mv5, hF5, _⟩ := id f5
    have e6 := e5.ext x6 t6
    have hF6 : H6 F = _ := x6 _ _ hF5 (fun _ z => nomatch z)
    have f6 : FlAt H6 C F vn (.ref pc) (qm :: rest) := by
      obtain ⟨dx', mv', hF', hm'⟩ := f5
      exact ⟨dx', mv', x6 _ _ hF' (fun _ z => nomatch z), hm'.tup (ext_tupS x6)⟩
    have l6 : H6 L = some (.lst pv) := x6 _ _ l5 (fun _ z => nomatch z)
    have a6 := a5.tup (ext_tupS x6)
    have hql := hist.len qm List.mem_cons_self
    refine ⟨F, dx5, _, rfl, hF6, rfl, F, n, c, vn, .ref pc, qm, rest, s, x, rfl, f6, fcA e6, sq, hs5, hx5, by omega, fun st' H7 hrep k7 f7 => hR _ H7 ?_, fun _ dd H7 s7 => ⟨EE.b, fun a => ?_⟩⟩
    · have e7 := e6.fleet k7 hF6 hFD
      refine ⟨r, s, x, pa, .non, rfl, e7, k7 _ _ (fun z => hFL (List.mem_singleton.mp z).symm) l6, a6.tup (k7.tupS fun a ha o ho => by
        rw [List.mem_singleton.mp ha, hF6] at ho
        cases ho
        rfl), .inl ⟨rfl, _, hist.push ((hist.run qm List.mem_cons_self).snoc hrep) ?_, f7⟩⟩
      show (qm.2 ++ [(s, x)]).length ≤ _
      rw [List.length_append, List.length_singleton]
      omega
    · exact ⟨r, s, x, pa, .ref a, rfl, e6.same s7, s7 _ _ l6, a6.same s7, .inr ⟨a, rfl, f6.same s7⟩⟩
  clear e5 f5 l5 a5 hs5 hx5
  obtain ⟨r, s, x, pa, v, rfl, e8, l8, a8, hv8⟩ := hM
  walk_at "nf"
  refine ⟨.inl ⟨rfl, _, .of l8⟩, ?_⟩
  rcases hv8 with ⟨rfl, q', hh, f8⟩ | ⟨a, rfl, f8⟩
  · refine ⟨_, rfl, iteT' (by decide) ⟨by decide, fun e he => ?_⟩⟩
    have s9 : Same _ _ := Same.new (o := .lst [.ref pa]) he
    have l9 := s9 _ _ l8
    have lenp : pv.length ≤ 26 := by
      rw [Al.len hpv, List.length_reverse]
      have := hist.num
      rw [List.length_cons] at this
      omega
    refine ⟨L, e, pv, [.ref pa], rfl, rfl, l9, upd_same, by rw [List.length_singleton]; exact Nat.le_trans (Nat.succ_le_succ lenp) (by decide), ⟨_, rfl, iteT' (by decide) ?_⟩⟩
    have e9 := e8.same s9
    have e10 := e9.updL (ys := pv ++ [.ref pa]) l9 hDL
    have t10 : TupS _ _ := TupS.lst (u := .lst (pv ++ [.ref pa])) l9
    refine q (q' :: qm :: rest) _ hh e10.keep e10.deck ((f8.same s9).keep (ps := [L]) (.upd (by simp)) t10 (by simpa using hFL)) (fcA e10) ⟨_, upd_same, ?_⟩ e10.tab
    rw [List.tail_cons, List.reverse_cons]
    exact (pvA e10).snoc ((a8.same s9).tup t10)
  · refine ⟨_, rfl, iteF' (by simp) ⟨by decide, fun e he => ?_⟩⟩
    have s9 : Same _ _ := Same.new (o := .lst []) he
    have l9 := s9 _ _ l8
    refine ⟨L, e, pv, [], rfl, rfl, l9, upd_same, by
      rw [Al.len hpv, List.length_reverse, List.length_nil]
      have := hist.num
      rw [List.length_cons] at this
      exact Nat.le_trans (show rest.length + 0 ≤ 26 by omega) (by decide), ⟨_, rfl, iteF' (by simp) ?_⟩⟩
    have e9 := e8.same s9
    have e10 := e9.updL (ys := pv ++ []) l9 hDL
    have t10 : TupS _ _ := TupS.lst (u := .lst (pv ++ [])) l9
    have f10 := (f8.same s9).keep (ps := [L]) (.upd (a := L) (o := .lst (pv ++ [])) (by simp)) t10 (by simpa using hFL)
    obtain ⟨dxp, mvp, hFp, _⟩ := id f10
    refine ⟨F, dxp, _, rfl, hFp, F, vn, .ref pc, qm, rest, rfl, f10, fun u hu => ⟨F, dxp, _, rfl, hFp, rfl, F, vn, .ref pc, qm, rest, rfl, f10, fun u2 hu2 => ⟨by decide, fun p hp => ?_⟩⟩⟩
    have sp := Same.new (o := .tup [u, u2]) hp
    refine r_eq (at_new2 hp hu hu2) ((((a8.same s9).tup t10)).same sp) qok qok ?_
    rw [decide_eq_true rfl]
    have e11 := e10.same sp
    exact q (qm :: rest) _ hist.mono e11.keep e11.deck (f10.same sp) (fcA e11) ⟨_, sp _ _ upd_same, pvN.tup e11.tup⟩ e11.tab
end
end G3
end

/-! ## G3Turned -/
section
set_option Elab.async false
set_option linter.all false
set_option maxRecDepth 100000
set_option maxHeartbeats 4000000
local macro_rules | `(tactic| walk_at "nf") => `(tactic| simp only [C8.tCut, G3.tWith, G3.dWith, G3.tLam0, G3.tLam1, G3.TTc, G3.TTr, L2.tRet, L2.tRetN, L2.tAndV, L2.tOrV, L2.tNotV, L2.tCB, L2.tCons, L2.tNil, L2.tVar, L2.tC, L2.tDIn, L2.tDNotIn, L2.tDGet, L2.tOp, L2.tUn, L2.tTest, L2.tB, L2.tIf, L2.tIfS, L2.tAnd, L2.tOr, L2.tNot, L2.tSeq, L2.tAsg, L2.gName, L2.tDrop, L2.tNext, L2.tCall, L2.tTup, L2.tLst, L2.tBM, L2.tBM0, L2.tSl, L2.tPart, L2.tNoPart, L2.sDPut, L2.tFld, L2.sFld, L2.tMeth, L2.tYes, L2.gTup, L2.gCons, L2.gNil, L2.tIsN, L2.tNotN, L2.tPar, L2.tPar3, L2.tDNewK, L2.tDisp, L2.tPairs, L2.tDGet1, StX.tStar, L2.gSub, L2.tProp, L2.tVeI, L2.tOst, L2.tMkO, L2.tDNewT, L2.tLock, G3.tFrzS, L2.tMake, L2.tDNewT, G3.lcL_fld, G3.lcT_fld, G3.forL_fld, G3.tListVals, G3.lc2T_op, G3.lc2L_call, L2.tGThen, L2.tG0, L2.tPlain, L2.GEnds.at, L2.tGYield, L2.tCallG, L2.tListG, G3.tTupIx, G3.dcT_op, G3.tFrz, G3.dcI_frz, G3.lcI_frz, G3.lcY_frz, G3.lcI_call, G3.lcT_lit, G3.forT_lit, G3.lcL_call, G3.lcL_op, G3.lcL_dget, G3.lcT_call, G3.lcT_op, G3.lcT_dget, G3.forL_call, G3.forL_op, G3.forL_dget, G3.forT_call, G3.forT_op, G3.forT_dget, G3.ex_l1, G3.ex_l2, G3.ex_l3,
  G3.start_eq, G3.cxOf_K, G3.wipe_nil, G3.wipe_cons, List.map_cons, List.map_nil, List.nil_append, List.cons_append, List.append_nil, List.getElem?_cons_zero, List.getElem?_cons_succ, List.set_cons_zero, List.set_cons_succ, List.set_nil, List.length_cons, List.length_nil, List.replicate, Option.some.injEq, G3.ex_eq, Nat.reduceAdd, Nat.reduceSub, Nat.zero_add, List.replicate_succ, List.replicate_zero, true_and, if_true, if_false, Bool.false_eq_true, Nat.add_zero, Int.add_zero])
namespace G3
open PySem PySem.Spec PyProof.Rows L2

abbrev sTurned : Stmt := top 69
theorem scTurned : FnScope ["_law_deck_here", "_law_items", "_law_left", "_law_found"] ["_law_deck_here", "_law_items"] (defScope sTurned) := ⟨rfl, rfl, rfl, by decide +kernel, rfl, by decide +kernel, by decide +kernel⟩
theorem Keep.put {ps : List Addr} {H H' : Hp} {p : Addr} {o : HO} (k : Keep ps H H') (hp : H p = none) : Keep ps H (L2.upd H' p o) := fun a u ha e => by rw [L2.upd_ne (ne_of_none e hp)]; exact k a u ha e
def spTurned : Sp := fun vs H Q _ => ∃ (D a : Addr) (b : Nat) (ns : List Str), vs = [.ref D, .ref a] ∧ DeckAt H D b ∧ b + 30 ≤ 1000000 ∧ H a = some (.lst (ns.map V.str)) ∧ a ≠ D ∧ ns.length ≤ 20 ∧ (∀ s ∈ ns, Enc.ok s) ∧ ∀ (p : Addr) (ys : List Str) H', ys.Perm ns → H p = none → Keep [D] H H' → DeckAt H' D (b + ns.length) → H' p = some (.lst (ys.map V.str)) → Q (.ref p) H'
theorem seqIx {j n : Nat} (h : j < n) : seqIndex? (j : Int) n = some j := by
  unfold seqIndex?
  have h1 : ¬ ((j : Int) < 0) := by omega
  simp only [h1, if_false]
  have h2 : (decide (0 ≤ (j : Int)) && decide ((j : Int) < (n : Int))) = true := by
    rw [decide_eq_true (by omega), decide_eq_true (by omega)]; rfl
  rw [if_pos h2]
  simp
theorem erase_map {α β : Type} (f : α → β) : ∀ (l : List α) (k : Nat), (l.map f).eraseIdx k = (l.eraseIdx k).map f
  | [], k => rfl
  | x :: l, 0 => rfl
  | x :: l, k + 1 => by rw [List.map_cons, List.eraseIdx_cons_succ, List.eraseIdx_cons_succ, List.map_cons, erase_map f l k]
theorem eraseIdx_perm {α : Type} : ∀ {l : List α} {k : Nat} {y : α}, l[k]? = some y → (y :: l.eraseIdx k).Perm l
  | [], k, y, h => by cases h
  | x :: l, 0, y, h => by cases h; exact .refl _
  | x :: l, k + 1, y, h => by
    have := eraseIdx_perm (l := l) (k := k) (y := y) (by simpa using h)
    rw [List.eraseIdx_cons_succ]
    exact (List.Perm.swap _ _ _).trans (this.cons x)
section
variable {P : Program} {w : World} {K : PySem.W.Frag} {mg : Str → Option Value} {base : Heap}
theorem ok_turned (T : Bt mg) (G : Df P w K mg base CX0 1 "_law_draw" ["_law_deck_here", "_law_many"] spDraw) (F : St0 K mg "_law_turned" sTurned) : Df P w K mg base CX0 2 "_law_turned" ["_law_deck_here", "_law_items"] spTurned := by
  refine F.ok0 scTurned (fun vs H Q E h => ?_) (fun _ _ _ _ _ _ us hl => match us, hl with | [_, _], _ => rfl) fun f cdv A outer s H vs Q E hr h => ?_
  · obtain ⟨D, a, b, ns, rfl, _⟩ := h
    rfl
  obtain ⟨D, a, b, ns, rfl, hD, hb, ha, haD, hlen, hok, q⟩ := h
  refine ⟨_, pss_cons (ps_par (i := 2) (j := 3) rfl scTurned.nd rfl rfl (by decide) rfl rfl (pa_cons (pe_callTy (crListOf K) rfl T.list boot_list (pa_cons (pv 1) pa_nil) (by decide) (by decide) rfl) (pa_cons (pe_lst pa_nil) pa_nil)) rfl)
    (pss_cons (ps_while PassesOwn.never (pt_cmpR (opNeD K hr.units) (pv 2) (pe_lst pa_nil) (nomark _))
      (pss_one (ps_expr (pe_bm PySem.F.plainAttrs_list PySem.F.slot_list_append PySem.F.type_list_append mt_append (pv 3) (pa_cons (pe_bm PySem.F.plainAttrs_list PySem.F.slot_list_pop PySem.F.type_list_pop mt_popAt (pv 2) (pa_cons (pe_df G hr pass0 (pa_cons (pv 0) (pa_cons (eLen K T (pv 2)) pa_nil))) pa_nil)) pa_nil)))))
    (pss_one (ps_ret (pv 3)))), ?_⟩
  walk_at "nf"
  refine ⟨a, ns.map V.str, rfl, .inl (.of ha), fun l hl => ⟨by decide, fun g hg => ?_⟩⟩
  have hlg : l ≠ g := fun z => by rw [z, upd_same] at hg; cases hg
  have hg0 : H g = none := (updN hg).2
  obtain ⟨own, seed, cnt, hDo, _⟩ := id hD
  have hDl : D ≠ l := ne_of_none hDo hl
  have hDg : D ≠ g := ne_of_none hDo hg0
  refine ⟨fun m σ' H' => ∃ lf fd : List Str, σ' = [some (.ref D), some (.ref a), some (.ref l), some (.ref g)] ∧ H' l = some (.lst (lf.map V.str)) ∧ H' g = some (.lst (fd.map V.str)) ∧ (fd ++ lf).Perm ns ∧ DeckAt H' D (b + fd.length) ∧ Keep [D] H H' ∧ m = lf.length,
    ⟨_, ns, [], rfl, by rw [upd_ne hlg, upd_same], upd_same, .refl _, hD.keep fun o e => by rw [upd_ne hDg, upd_ne hDl]; exact e, (Keep.put .refl hl).put hg0, rfl⟩, ?_⟩
  rintro m σ4 H4 ⟨lf, fd, rfl, h1, h2, hp, hd, hk, rfl⟩
  have hll : fd.length + lf.length = ns.length := by rw [← List.length_append]; exact hp.length_eq
  walk_at "nf"
  refine ⟨by decide, fun e he => ?_⟩
  have s5 : Same H4 (upd H4 e (.lst [])) := .new he
  have h5 : upd H4 e (.lst []) e = some (.lst []) := upd_same
  generalize upd H4 e (.lst []) = H5 at s5 h5
  have h1 := s5 _ _ h1
  have h2 := s5 _ _ h2
  have hd := hd.keep (s5 D)
  have hk := hk.trans (.same s5)
  refine r_neLE (l := lf) h1 (al_str.mpr rfl) h5 (fun x hx => hok x (hp.mem_iff.mp (List.mem_append_right _ hx))) ⟨_, rfl, ?_⟩
  cases hlf : lf with
  | nil =>
    subst hlf
    rw [List.append_nil] at hp
    refine iteF' (by simp) (q g fd H5 hp hg0 hk ?_ h2)
    rw [← hp.length_eq]
    exact hd
  | cons x0 lf0 =>
    rw [hlf] at hll h1
    refine iteT' (by simp) ⟨fun σ' H' => ∃ m', m' < (x0 :: lf0).length ∧ ∃ lf fd : List Str, σ' = [some (.ref D), some (.ref a), some (.ref l), some (.ref g)] ∧ H' l = some (.lst (lf.map V.str)) ∧ H' g = some (.lst (fd.map V.str)) ∧ (fd ++ lf).Perm ns ∧ DeckAt H' D (b + fd.length) ∧ Keep [D] H H' ∧ m' = lf.length, fun _ _ h => h, ?_⟩
    refine ⟨.inl ⟨rfl, _, .of h2⟩, .inl ⟨rfl, _, .of h1⟩, r_lenL (.of h1) ⟨D, b + fd.length, _, rfl, hd, by omega, by rw [List.length_map, List.length_cons]; omega, by rw [List.length_map]; omega, fun r H6 r0 r1 k6 d6 => ?_⟩⟩
    rw [List.length_map] at r1
    obtain ⟨j, rfl⟩ : ∃ j : Nat, r = (j : Int) := ⟨r.toNat, by omega⟩
    have hj : j < (x0 :: lf0).length := by omega
    obtain ⟨y, hy⟩ : ∃ y, (x0 :: lf0)[j]? = some y := ⟨_, List.getElem?_eq_getElem hj⟩
    have h1' : H6 l = some (.lst ((x0 :: lf0).map V.str)) := k6 _ _ (fun z => hDl (List.mem_singleton.mp z).symm) h1
    have h2' : H6 g = some (.lst (fd.map V.str)) := k6 _ _ (fun z => hDg (List.mem_singleton.mp z).symm) h2
    refine ⟨l, _, j, j, .str y, rfl, rfl, h1', by omega, by omega, seqIx (by rw [List.length_map]; exact hj), by rw [List.getElem?_map, hy]; rfl, ?_⟩
    have h7 : upd H6 l (.lst (((x0 :: lf0).map V.str).eraseIdx j)) g = some (.lst (fd.map V.str)) := by rw [upd_ne hlg.symm]; exact h2'
    refine ⟨g, _, .str y, rfl, rfl, h7, by rw [List.length_map]; exact Nat.lt_of_le_of_lt (show fd.length ≤ 20 by omega) (by decide), ?_⟩
    have pe := eraseIdx_perm hy
    have le : ((x0 :: lf0).eraseIdx j).length + 1 = (x0 :: lf0).length := by
      have := pe.length_eq
      rw [List.length_cons] at this
      exact this
    refine ⟨_, ?_, (x0 :: lf0).eraseIdx j, fd ++ [y], rfl, by rw [upd_ne hlg, upd_same, erase_map], by rw [upd_same, List.map_append]; rfl, ?_, ?_, ((hk.trans k6).put hl).put hg0, rfl⟩
    · omega
    · rw [hlf] at hp
      rw [List.append_assoc]
      exact (List.Perm.append_left fd pe).trans hp
    · rw [List.length_append, List.length_singleton]
      exact d6.keep fun o e => by rw [upd_ne hDg, upd_ne hDl]; exact e
end
end G3
end

/-! ## G3Names -/
section
set_option Elab.async false
set_option linter.all false
set_option maxRecDepth 100000
set_option maxHeartbeats 4000000
local macro_rules | `(tactic| walk_at "nf") => `(tactic| simp only [C8.tCut, G3.tWith, G3.dWith, G3.tLam0, G3.tLam1, G3.TTc, G3.TTr, L2.tRet, L2.tRetN, L2.tAndV, L2.tOrV, L2.tNotV, L2.tCB, L2.tCons, L2.tNil, L2.tVar, L2.tC, L2.tDIn, L2.tDNotIn, L2.tDGet, L2.tOp, L2.tUn, L2.tTest, L2.tB, L2.tIf, L2.tIfS, L2.tAnd, L2.tOr, L2.tNot, L2.tSeq, L2.tAsg, L2.gName, L2.tDrop, L2.tNext, L2.tCall, L2.tTup, L2.tLst, L2.tBM, L2.tBM0, L2.tSl, L2.tPart, L2.tNoPart, L2.sDPut, L2.tFld, L2.sFld, L2.tMeth, L2.tYes, L2.gTup, L2.gCons, L2.gNil, L2.tIsN, L2.tNotN, L2.tPar, L2.tPar3, L2.tDNewK, L2.tDisp, L2.tPairs, L2.tDGet1, StX.tStar, L2.gSub, L2.tProp, L2.tVeI, L2.tOst, L2.tMkO, L2.tDNewT, L2.tLock, G3.tFrzS, L2.tMake, L2.tDNewT, G3.lcL_fld, G3.lcT_fld, G3.forL_fld, G3.tListVals, G3.lc2T_op, G3.lc2L_call, L2.tGThen, L2.tG0, L2.tPlain, L2.GEnds.at, L2.tGYield, L2.tCallG, L2.tListG, G3.tTupIx, G3.dcT_op, G3.tFrz, G3.dcI_frz, G3.lcI_frz, G3.lcY_frz, G3.lcI_call, G3.lcT_lit, G3.forT_lit, G3.lcL_call, G3.lcL_op, G3.lcL_dget, G3.lcT_call, G3.lcT_op, G3.lcT_dget, G3.forL_call, G3.forL_op, G3.forL_dget, G3.forT_call, G3.forT_op, G3.forT_dget, G3.ex_l1, G3.ex_l2, G3.ex_l3,
  G3.start_eq, G3.cxOf_K, G3.wipe_nil, G3.wipe_cons, List.map_cons, List.map_nil, List.nil_append, List.cons_append, List.append_nil, List.getElem?_cons_zero, List.getElem?_cons_succ, List.set_cons_zero, List.set_cons_succ, List.set_nil, List.length_cons, List.length_nil, List.replicate, Option.some.injEq, G3.ex_eq, Nat.reduceAdd, Nat.reduceSub, Nat.zero_add, List.replicate_succ, List.replicate_zero, true_and, if_true, if_false, Bool.false_eq_true, Nat.add_zero, Int.add_zero])
namespace G3
open PySem PySem.Spec PyProof.Rows L2

abbrev sNames : Stmt := top 70
theorem scNames : FnScope ["_law_deck_here", "_law_many", "_law_stem", "_law_first", "_law_letters", "_law_at"] ["_law_deck_here", "_law_many"] (defScope sNames) := ⟨rfl, rfl, rfl, by decide +kernel, rfl, by decide +kernel, by decide +kernel⟩
def letters : Str := "abcdefghijklmnopqrstuvwxyz"
def lt (i : Nat) : Nat := letters.cps.toList.getD i 0
def stems : List Str := ["", "", "x", "step", "release"]
def nameAt (stem : Str) (first : Int) (at_ : Int) : Str := stem ++ ⟨#[lt ((first + 5 * at_) % 26).toNat]⟩
theorem lt_inj : ∀ i < 26, ∀ j < 26, lt i = lt j → i = j := by decide +kernel
theorem name_ok : ∀ s ∈ stems, ∀ i < 26, PyData.strOk (s ++ ⟨#[lt i]⟩) = true := by decide +kernel
theorem letters_at {i : Nat} (h : i < 26) : letters.cps.toList[i]? = some (lt i) := by
  have : ∀ i < 26, letters.cps.toList[i]? = some (lt i) := by decide +kernel
  exact this i h
theorem str_cancel {s a b : Str} (h : s ++ a = s ++ b) : a = b := by
  obtain ⟨s⟩ := s
  obtain ⟨a⟩ := a
  obtain ⟨b⟩ := b
  have h1 : s ++ a = s ++ b := congrArg Str.cps h
  have h2 := congrArg Array.toList h1
  rw [Array.toList_append, Array.toList_append] at h2
  have h3 := List.append_cancel_left h2
  exact congrArg Str.mk (Array.toList_inj.mp h3)
theorem nameAt_inj {s : Str} {f : Int} {i j : Int} (hi : 0 ≤ i ∧ i < 26) (hj : 0 ≤ j ∧ j < 26) (h : nameAt s f i = nameAt s f j) : i = j := by
  have h1 := str_cancel h
  have h2 : lt ((f + 5 * i) % 26).toNat = lt ((f + 5 * j) % 26).toNat := by
    have := congrArg (fun z : Str => z.cps[0]?) h1
    simpa using this
  have h3 := lt_inj _ (by omega) _ (by omega) h2
  omega
theorem Keep.free1 {H H' : Hp} {D p : Addr} {b : Nat} (k : Keep [D] H H') (d : DeckAt H' D b) (h : H' p = none) : H p = none := by
  cases e : H p with
  | none => rfl
  | some o =>
    by_cases z : p = D
    · obtain ⟨_, _, _, e', _⟩ := d
      rw [z, e'] at h
      cases h
    · rw [k p o (fun y => z (List.mem_singleton.mp y)) e] at h
      cases h
def spNames : Sp := fun vs H Q _ => ∃ (D : Addr) (b m : Nat), vs = [.ref D, .int m] ∧ DeckAt H D b ∧ b ≤ 900000 ∧ m ≤ 20 ∧ ∀ (p : Addr) (ns : List Str) H', ns.Nodup → ns.length = m → (∀ s ∈ ns, Enc.ok s) → H p = none → Keep [D] H H' → DeckAt H' D (b + 2) → H' p = some (.lst (ns.map V.str)) → Q (.ref p) H'
section
variable {P : Program} {w : World} {K : PySem.W.Frag} {mg : Str → Option Value} {base : Heap}
theorem ok_lnames (T : Bt mg) (GD : Df P w K mg base CX0 1 "_law_draw" ["_law_deck_here", "_law_many"] spDraw) (GA : Df P w K mg base CX0 2 "_law_any" ["_law_deck_here", "_law_items"] (spAny K)) (F : St0 K mg "_law_names" sNames) : Df P w K mg base CX0 3 "_law_names" ["_law_deck_here", "_law_many"] spNames := by
  refine F.ok0 scNames (fun vs H Q E h => ?_) (fun _ _ _ _ _ _ us hl => match us, hl with | [_, _], _ => rfl) fun f cdv A outer s H vs Q E hr h => ?_
  · obtain ⟨D, b, m, rfl, _⟩ := h
    rfl
  obtain ⟨D, b, m, rfl, hD, hb, hm, q⟩ := h
  refine ⟨_, pss_cons (ps_asg (pe_tup (pa_cons (pe_df GA hr pass0 (pa_cons (pv 0) (pa_cons (pe_lst (pa_cons pe_str (pa_cons pe_str (pa_cons pe_str (pa_cons pe_str (pa_cons pe_str pa_nil)))))) pa_nil))) (pa_cons (pe_df GD hr pass0 (pa_cons (pv 0) (pa_cons pe_int pa_nil))) pa_nil)))
      (pg_tup rfl (pgs_cons (pg_name (i := 2) scNames.nd rfl (.inr rfl)) (pgs_cons (pg_name (i := 3) scNames.nd rfl (.inr rfl)) pgs_nil))))
    (pss_cons (ps_set (i := 4) scNames.nd rfl (.inr rfl) pe_str)
    (pss_one (ps_ret (eSortS K T (pe_lc (own := [("_law_at", 5)]) (g := gName 5) rfl scNames.nd (pi_range1 rfl T.range (pa_cons (pv 1) pa_nil)) (blkOk_by (by rfl)) (fun _ _ _ _ _ => pg_name (i := 5) scNames.nd rfl (Or.inl rfl)) (fun _ _ _ _ _ => pts_nil)
      (fun _ _ _ _ _ => pe_op op_add_str (pv 2) (pe_ix ix_str (pv 4) (pe_op op_mod (pe_op op_add (pv 3) (pe_op op_mul pe_int (pv 5))) pe_int) (fun _ _ => rfl)))))))), ?_⟩
  walk_at "nf"
  obtain ⟨own, seed, cnt, hDo, _⟩ := id hD
  refine ⟨by decide, fun p hp => ?_⟩
  have s1 : Same H (upd H p (.lst (stems.map V.str))) := .new hp
  have h1 : upd H p (.lst (stems.map V.str)) p = some (.lst (stems.map V.str)) := upd_same
  show spAny K [.ref D, .ref p] (upd H p (.lst (stems.map V.str))) _ _
  generalize upd H p (.lst (stems.map V.str)) = H1 at s1 h1
  have hDp : D ≠ p := ne_of_none hDo hp
  refine ⟨D, p, b, stems.map V.str, rfl, hD.keep (s1 D), by omega, by simp [stems], by decide, .inl fun H' k => .of (k _ _ (fun z => hDp (List.mem_singleton.mp z).symm) h1), fun v H2 hv k2 d2 => ?_⟩
  obtain ⟨st, hst, rfl⟩ := List.mem_map.mp hv
  refine ⟨D, b + 1, 26, rfl, d2, by omega, by decide, by decide, fun r H3 r0 r1 k3 d3 => ⟨by decide, fun p2 hp2 => ⟨p2, _, rfl, .of upd_same, rfl, _, _, rfl, _, _, rfl, rfl, ?_⟩⟩⟩
  have s4 : Same H3 (upd H3 p2 (.tup [.str st, .int r])) := .new hp2
  generalize upd H3 p2 (.tup [.str st, .int r]) = H4 at s4
  have k4 : Keep [D] H H4 := ((Keep.same s1).trans k2).trans (k3.trans (.same s4))
  have stlen : st.length ≤ 10 := by
    have : ∀ z ∈ stems, z.length ≤ 10 := by decide +kernel
    exact this st hst
  have irm : ∀ a ∈ irange 0 (m : Int).toNat, 0 ≤ a ∧ a < 26 := fun a ha => by
    have := irange_mem.mp ha
    omega
  refine lc_range1 (hi := (m : Int)) (fun R h => ⟨_, rfl, h⟩) ⟨by omega, by omega⟩ (RAt (α := Str)) stab_at (fun _ => true) (nameAt st r) (by rw [Int.toNat_natCast]; exact small1000 (by omega)) (fun a H5 R ha s5 kp _ => ?_) fun Dl ys H5 hDl s5 h5 hpd => ?_
  · refine ⟨rfl, ?_⟩
    walk_at "nf"
    have ha' := irm a ha
    refine ⟨_, _, rfl, rfl, .inl ⟨by decide, by decide⟩, _, _, rfl, rfl, _, _, rfl, rfl, (by show (0 : Int) < 26; decide), ?_⟩
    have hi : ((r + 5 * a) % 26).toNat < 26 := by omega
    have hj : (r + 5 * a) % 26 = (((r + 5 * a) % 26).toNat : Int) := by omega
    refine ⟨letters, (r + 5 * a) % 26, lt ((r + 5 * a) % 26).toNat, rfl, rfl, by decide +kernel, by rw [hj]; exact atI_nat (letters_at hi), _, _, rfl, rfl, ?_, kp _ _ (.refl _) rfl rfl⟩
    exact Nat.le_trans (Nat.add_le_add_right stlen _) (by show 10 + 1 ≤ sizeLine; decide)
  · rw [filter_true] at hpd
    rw [strs_of hpd] at h5
    have hl : ((irange 0 (m : Int).toNat).map (nameAt st r)).length = m := by rw [List.length_map, irange_len, Int.toNat_natCast]
    refine ⟨Dl, (irange 0 (m : Int).toNat).map (nameAt st r), rfl, .of h5, by omega, fun zs p3 hpm _ hp3 => ?_⟩
    have d5 := (d3.keep (s4 D)).keep (s5 D)
    have s6 := Same.new (o := .lst (zs.map V.str)) hp3
    refine q p3 zs _ ?_ (by rw [hpm.length_eq, hl]) (fun x hx => ?_) ?_ ((k4.trans (.same s5)).trans (.same s6)) (d5.keep (s6 D)) upd_same
    · refine hpm.nodup_iff.mpr ?_
      exact List.pairwise_map.mpr (List.Pairwise.imp_of_mem (fun {a b} ha hb ne e => ne (nameAt_inj (irm a ha) (irm b hb) e)) irange_nodup)
    · obtain ⟨a, ha, rfl⟩ := List.mem_map.mp (hpm.mem_iff.mp hx)
      have := irm a ha
      exact name_ok st hst _ (by omega)
    · exact (k4.trans (.same s5)).free1 d5 hp3
end
end G3
end

/-! ## G3NetM -/
section
set_option Elab.async false
set_option linter.all false
set_option maxRecDepth 100000
set_option maxHeartbeats 4000000
/-! The drawn network is two-sided, no talk twice (plain). -/
namespace G3
open PySem PySem.Spec PyProof.Rows L2
/-- the talks that are drawn ahead of (i, j) -/
def TInv (ns : List Str) (side : List Int) (i j : Nat) (T : List (Str × Str)) : Prop := ∃ L : List (Nat × Nat), T = L.map (fun p => (ns.getD p.1 Str.empty, ns.getD p.2 Str.empty)) ∧
  (∀ p ∈ L, p.1 < p.2 ∧ p.2 < ns.length ∧ side.getD p.1 0 ≠ side.getD p.2 0 ∧ (p.1 < i ∨ p.1 = i ∧ p.2 < j)) ∧ L.Pairwise (fun p q => p.1 < q.1 ∨ p.1 = q.1 ∧ p.2 < q.2) ∧ L.length ≤ 40
section
variable {ns : List Str} {side : List Int} {i j k : Nat} {T : List (Str × Str)}
theorem TInv.nil : TInv ns side i j [] := ⟨[], rfl, by simp, List.Pairwise.nil, by simp⟩
theorem TInv.len (h : TInv ns side i j T) : T.length ≤ 40 := by
  obtain ⟨L, rfl, _, _, hl⟩ := h
  rw [List.length_map]; exact hl
theorem TInv.skip (h : TInv ns side i j T) (hk : j ≤ k) : TInv ns side i k T := by
  obtain ⟨L, e, h1, h2, h3⟩ := h
  exact ⟨L, e, fun p hp => by obtain ⟨a, b, c, d⟩ := h1 p hp; exact ⟨a, b, c, by omega⟩, h2, h3⟩
theorem TInv.row (h : TInv ns side i j T) : TInv ns side (i + 1) k T := by
  obtain ⟨L, e, h1, h2, h3⟩ := h
  exact ⟨L, e, fun p hp => by obtain ⟨a, b, c, d⟩ := h1 p hp; exact ⟨a, b, c, by omega⟩, h2, h3⟩
theorem TInv.add (h : TInv ns side i j T) {a b : Str} (hij : i < j) (hj : j < ns.length) (ha : ns[i]? = some a) (hb : ns[j]? = some b) (hs : side.getD i 0 ≠ side.getD j 0) (hl : T.length < 40) : TInv ns side i (j + 1) (T ++ [(a, b)]) := by
  obtain ⟨L, e, h1, h2, h3⟩ := h
  have hl' : L.length < 40 := by rw [e, List.length_map] at hl; exact hl
  refine ⟨L ++ [(i, j)], ?_, fun p hp => ?_, ?_, by rw [List.length_append, List.length_singleton]; omega⟩
  · rw [e, List.map_append]
    congr 1
    rw [List.map_cons, List.map_nil, List.getD_eq_getElem?_getD, List.getD_eq_getElem?_getD, ha, hb]
    rfl
  · rcases List.mem_append.mp hp with hp | hp
    · obtain ⟨a, b, c, d⟩ := h1 p hp
      exact ⟨a, b, c, by omega⟩
    · rw [List.mem_singleton.mp hp]
      exact ⟨hij, hj, hs, .inr ⟨rfl, by simp⟩⟩
  · refine List.pairwise_append.mpr ⟨h2, List.pairwise_singleton _ _, fun p hp q hq => ?_⟩
    rw [List.mem_singleton.mp hq]
    exact (h1 p hp).2.2.2
theorem getD_at {i : Nat} (h : i < ns.length) : ns[i]? = some (ns.getD i Str.empty) := by
  rw [List.getD_eq_getElem?_getD, List.getElem?_eq_getElem h]; rfl
theorem nodup_at (nd : ns.Nodup) {i j : Nat} (hi : i < ns.length) (hj : j < ns.length) (e : ns.getD i Str.empty = ns.getD j Str.empty) : i = j := by
  have h1 := getD_at hi
  have h2 := getD_at hj
  rw [e] at h1
  exact nodup_ix nd h1 h2
theorem netok_drawn (nd : ns.Nodup) (ok : ∀ s ∈ ns, Enc.ok s) (len : ns.length ≤ 10) (ne : ns ≠ []) (hs : ∀ z ∈ side, z = 0 ∨ z = 1) (hsl : side.length = ns.length) (h : TInv ns side i j T) : NetOk (ns, T) := by
  have tl := h.len
  obtain ⟨L, e, h1, h2, _⟩ := h
  have mem : ∀ i, i < ns.length → ns.getD i Str.empty ∈ ns := fun i hi => List.mem_of_getElem? (getD_at hi)
  have tk : ∀ p ∈ T, ∃ a b, p = (ns.getD a Str.empty, ns.getD b Str.empty) ∧ a < b ∧ b < ns.length ∧ side.getD a 0 ≠ side.getD b 0 := fun p hp => by
    rw [e] at hp
    obtain ⟨q, hq, rfl⟩ := List.mem_map.mp hp
    obtain ⟨a, b, c, _⟩ := h1 q hq
    exact ⟨_, _, rfl, a, b, c⟩
  have two : T.Pairwise fun p q => p ≠ q ∧ p ≠ (q.2, q.1) := by
    rw [e]
    refine List.pairwise_map.mpr (List.Pairwise.imp_of_mem (fun {p q} hp hq r => ?_) h2)
    obtain ⟨a1, b1, _, _⟩ := h1 p hp
    obtain ⟨a2, b2, _, _⟩ := h1 q hq
    constructor
    · intro z
      have e1 := nodup_at nd (by omega) (by omega) (congrArg Prod.fst z)
      have e2 := nodup_at nd b1 b2 (congrArg Prod.snd z)
      omega
    · intro z
      have e1 := nodup_at nd (by omega) (by omega) (congrArg Prod.fst z)
      have e2 := nodup_at nd b1 (by omega) (congrArg Prod.snd z)
      omega
  have ne2 : ∀ p ∈ T, p.1 ≠ p.2 := fun p hp z => by
    obtain ⟨a, b, rfl, hab, hb, _⟩ := tk p hp
    have := nodup_at nd (by omega) hb z
    omega
  refine ⟨nd, ok, len, ne, fun p hp => ?_, tl, fun s _ => ?_, ⟨fun s => decide (side.getD (ns.idxOf s) 0 = 1), fun p hp => ?_⟩⟩
  · obtain ⟨a, b, rfl, hab, hb, _⟩ := tk p hp
    exact ⟨mem a (by omega), mem b hb, ne2 _ hp⟩
  · unfold adj
    rw [List.nodup_iff_pairwise_ne]
    refine List.pairwise_flatMap.mpr ⟨fun p hp => ?_, List.Pairwise.imp_of_mem (fun {p q} hp hq r x hx y hy z => ?_) two⟩
    · by_cases h1 : p.1 = s
      · have h2 : ¬ p.2 = s := fun z => ne2 p hp (h1.trans z.symm)
        rw [if_pos h1, if_neg h2]
        simp
      · rw [if_neg h1]
        by_cases h2 : p.2 = s
        · rw [if_pos h2]; simp
        · rw [if_neg h2]; simp
    · subst z
      obtain ⟨p1, p2⟩ := p
      obtain ⟨q1, q2⟩ := q
      obtain ⟨r1, r2⟩ := r
      have cx : (p1 = s ∧ p2 = x) ∨ (p2 = s ∧ p1 = x) := by
        rcases List.mem_append.mp hx with hx | hx
        · by_cases h1 : p1 = s
          · rw [if_pos h1] at hx
            exact .inl ⟨h1, (List.mem_singleton.mp hx).symm⟩
          · rw [if_neg h1] at hx; cases hx
        · by_cases h1 : p2 = s
          · rw [if_pos h1] at hx
            exact .inr ⟨h1, (List.mem_singleton.mp hx).symm⟩
          · rw [if_neg h1] at hx; cases hx
      have cy : (q1 = s ∧ q2 = x) ∨ (q2 = s ∧ q1 = x) := by
        rcases List.mem_append.mp hy with hx | hx
        · by_cases h1 : q1 = s
          · rw [if_pos h1] at hx
            exact .inl ⟨h1, (List.mem_singleton.mp hx).symm⟩
          · rw [if_neg h1] at hx; cases hx
        · by_cases h1 : q2 = s
          · rw [if_pos h1] at hx
            exact .inr ⟨h1, (List.mem_singleton.mp hx).symm⟩
          · rw [if_neg h1] at hx; cases hx
      rcases cx with ⟨rfl, rfl⟩ | ⟨rfl, rfl⟩ <;> rcases cy with ⟨rfl, rfl⟩ | ⟨rfl, rfl⟩ <;> first | exact r1 rfl | exact r2 rfl
  · obtain ⟨a, b, rfl, hab, hb, hs2⟩ := tk p hp
    have ix : ∀ i, i < ns.length → ns.idxOf (ns.getD i Str.empty) = i := fun i hi => by
      have h1 : ns.idxOf (ns.getD i Str.empty) < ns.length := List.idxOf_lt_length_iff.mpr (mem i hi)
      have h2 : ns[ns.idxOf (ns.getD i Str.empty)]? = some (ns.getD i Str.empty) := by
        rw [List.getElem?_eq_getElem h1, List.getElem_idxOf]
      exact nodup_ix nd h2 (getD_at hi)
    have v : ∀ i, i < ns.length → side.getD i 0 = 0 ∨ side.getD i 0 = 1 := fun i hi => by
      rw [List.getD_eq_getElem?_getD, List.getElem?_eq_getElem (by omega : i < side.length)]
      exact hs _ (List.getElem_mem _)
    show decide (side.getD (ns.idxOf (ns.getD a Str.empty)) 0 = 1) ≠ decide (side.getD (ns.idxOf (ns.getD b Str.empty)) 0 = 1)
    rw [ix a (by omega), ix b hb]
    rcases v a (by omega) with z1 | z1 <;> rcases v b hb with z2 | z2 <;> rw [z1, z2] at hs2 ⊢ <;> first | exact absurd rfl hs2 | decide
end
end G3
end

/-! ## G3Network -/
section
set_option Elab.async false
set_option linter.all false
set_option maxRecDepth 100000
set_option maxHeartbeats 4000000
local macro_rules | `(tactic| walk_at "nf") => `(tactic| simp only [C8.tCut, G3.tWith, G3.dWith, G3.tLam0, G3.tLam1, G3.TTc, G3.TTr, L2.tRet, L2.tRetN, L2.tAndV, L2.tOrV, L2.tNotV, L2.tCB, L2.tCons, L2.tNil, L2.tVar, L2.tC, L2.tDIn, L2.tDNotIn, L2.tDGet, L2.tOp, L2.tUn, L2.tTest, L2.tB, L2.tIf, L2.tIfS, L2.tAnd, L2.tOr, L2.tNot, L2.tSeq, L2.tAsg, L2.gName, L2.tDrop, L2.tNext, L2.tCall, L2.tTup, L2.tLst, L2.tBM, L2.tBM0, L2.tSl, L2.tPart, L2.tNoPart, L2.sDPut, L2.tFld, L2.sFld, L2.tMeth, L2.tYes, L2.gTup, L2.gCons, L2.gNil, L2.tIsN, L2.tNotN, L2.tPar, L2.tPar3, L2.tDNewK, L2.tDisp, L2.tPairs, L2.tDGet1, StX.tStar, L2.gSub, L2.tProp, L2.tVeI, L2.tOst, L2.tMkO, L2.tDNewT, L2.tLock, G3.tFrzS, L2.tMake, L2.tDNewT, G3.lcL_fld, G3.lcT_fld, G3.forL_fld, G3.tListVals, G3.lc2T_op, G3.lc2L_call, L2.tGThen, L2.tG0, L2.tPlain, L2.GEnds.at, L2.tGYield, L2.tCallG, L2.tListG, G3.tTupIx, G3.dcT_op, G3.tFrz, G3.dcI_frz, G3.lcI_frz, G3.lcY_frz, G3.lcI_call, G3.lcT_lit, G3.forT_lit, G3.lcL_call, G3.lcL_op, G3.lcL_dget, G3.lcT_call, G3.lcT_op, G3.lcT_dget, G3.forL_call, G3.forL_op, G3.forL_dget, G3.forT_call, G3.forT_op, G3.forT_dget, G3.ex_l1, G3.ex_l2, G3.ex_l3,
  G3.start_eq, G3.cxOf_K, G3.wipe_nil, G3.wipe_cons, List.map_cons, List.map_nil, List.nil_append, List.cons_append, List.append_nil, List.getElem?_cons_zero, List.getElem?_cons_succ, List.set_cons_zero, List.set_cons_succ, List.set_nil, List.length_cons, List.length_nil, List.replicate, Option.some.injEq, G3.ex_eq, Nat.reduceAdd, Nat.reduceSub, Nat.zero_add, List.replicate_succ, List.replicate_zero, true_and, if_true, if_false, Bool.false_eq_true, Nat.add_zero, Int.add_zero])
namespace G3
open PySem PySem.Spec PyProof.Rows L2

abbrev sNetwork : Stmt := top 72
theorem scNetwork : FnScope ["_law_deck_here", "_law_many", "_law_is_sided", "_law_services", "_law_talks", "_law_share", "_law_side", "_law_at", "_law_one", "_law_to", "_law_is_wanted", "_law_service"] ["_law_deck_here", "_law_many", "_law_is_sided"] (defScope sNetwork) := ⟨rfl, rfl, rfl, by decide +kernel, rfl, by decide +kernel, by decide +kernel⟩
theorem DeckAt.mono {H : Hp} {D : Addr} {b b' : Nat} (h : DeckAt H D b) (l : b ≤ b') : DeckAt H D b' :=
  let ⟨o, sd, ct, q, h1, h2, h3, h4, h5⟩ := h
  ⟨o, sd, ct, q, h1, h2, h3, h4, by omega⟩
/-- for i, x in enumerate(list) -/
theorem for_enumL {K : PySem.W.Frag} {a : Addr} {xs : List V} {g : TG} {tb : TS} {D : Ends} {σ : L2.St} {H : Hp} (Pv : Nat → L2.St → Hp → Prop) (h0 : Pv 0 σ H) (hl : ∀ i σ H, i ≤ xs.length → Pv i σ H → SqL K H a xs)
    (hs : ∀ i x σ H T, xs[i]? = some x → Pv i σ H → H T = none → g (.ref T) σ (upd H T (.tup [.int (i : Nat), x])) fun σ2 H2 => tb { D with nx := Pv (i + 1), ct := Pv (i + 1), bk := D.nx } σ2 H2) (hd : ∀ σ H, Pv xs.length σ H → D.nx σ H) :
    ∃ W : Nat → Nat → L2.St → Hp → Prop, (∃ m, W 0 m σ H) ∧ ∀ i m σ H, W i m σ H →
      ((Ite K a).stop i H ∧ D.nx σ H) ∨ ((Ite K a).go i H ∧ ∃ N : L2.St → Hp → Prop, (∀ σ' H', N σ' H' → ∃ m', m' < m ∧ W (i + 1) m' σ' H') ∧ ∀ x H', (Ite K a).yld i H x H' → g x σ H' fun σ2 H2 => tb { D with nx := N, ct := N, bk := D.nx } σ2 H2) := by
  refine ⟨fun i m σ H => m = xs.length - i ∧ i ≤ xs.length ∧ Pv i σ H, ⟨xs.length, by simp, Nat.zero_le _, h0⟩, ?_⟩
  rintro i m σ H ⟨rfl, hi, p⟩
  have q := hl i σ H hi p
  by_cases hlt : i < xs.length
  · refine .inr ⟨⟨xs, xs[i], q, by simp [hlt]⟩, Pv (i + 1), fun σ' H' p' => ⟨xs.length - (i + 1), by omega, rfl, hlt, p'⟩, fun x H' y => ?_⟩
    obtain ⟨T, x', e, hT, e', hx⟩ := y
    subst e e'
    exact hs i x' σ H T (hx xs q) p hT
  · have e : i = xs.length := by omega
    subst e
    exact .inl ⟨⟨xs, q, Nat.le_refl _⟩, hd σ H p⟩
def spNetwork : Sp := fun vs H Q _ => ∃ (D : Addr) (b m : Nat), vs = [.ref D, .int m, .bl true] ∧ DeckAt H D b ∧ b ≤ 800000 ∧ 1 ≤ m ∧ m ≤ 10 ∧ ∀ (p : Addr) (n : Net) H', NetOk n → n.1.length = m → H p = none → Keep [D] H H' → NetD H' n (.ref p) → DeckAt H' D (b + 200) → Q (.ref p) H'
section
variable {P : Program} {w : World} {K : PySem.W.Frag} {mg : Str → Option Value} {base : Heap}
theorem ok_network (T : Bt mg) (GD : Df P w K mg base CX0 1 "_law_draw" ["_law_deck_here", "_law_many"] spDraw) (GA : Df P w K mg base CX0 2 "_law_any" ["_law_deck_here", "_law_items"] (spAny K)) (GN : Df P w K mg base CX0 3 "_law_names" ["_law_deck_here", "_law_many"] spNames) (F : St0 K mg "_law_network" sNetwork) : Df P w K mg base CX0 4 "_law_network" ["_law_deck_here", "_law_many", "_law_is_sided"] spNetwork := by
  refine F.ok0 scNetwork (fun vs H Q E h => ?_) (fun _ _ _ _ _ _ us hl => match us, hl with | [_, _, _], _ => rfl) fun f cdv A outer s H vs Q E hr h => ?_
  · obtain ⟨D, b, m, rfl, _⟩ := h
    rfl
  obtain ⟨D, b, m, rfl, hD, hb, hm1, hm, q⟩ := h
  refine ⟨_, pss_cons (ps_par3 (i := 3) (j := 4) (l := 5) rfl scNetwork.nd rfl rfl rfl (by decide) (by decide) (by decide) rfl rfl rfl (pa_cons (pe_df GN hr pass0 (pa_cons (pv 0) (pa_cons (pv 1) pa_nil))) (pa_cons (pe_lst pa_nil) (pa_cons (pe_df GA hr pass0 (pa_cons (pv 0) (pa_cons (pe_lst (pa_cons pe_int (pa_cons pe_int (pa_cons pe_int (pa_cons pe_int pa_nil))))) pa_nil))) pa_nil))) rfl)
    (pss_cons (ps_setLc (i := 6) (own := [("_law_service", 11)]) (g := gName 11) rfl scNetwork.nd rfl rfl (sw_true rfl rfl rfl (by decide +kernel)) (piL K (pv 3)) (blkOk_by (by rfl)) (fun _ _ _ _ _ => pg_name (i := 11) scNetwork.nd rfl (Or.inl rfl)) (fun _ _ _ _ _ => pts_nil) (fun _ _ _ _ _ => pe_df GD hr pass0 (pa_cons (pv 0) (pa_cons pe_int pa_nil))))
    (pss_cons (ps_for PassesOwn.never rfl (pi_enum rfl T.enumerate (pa_cons (pv 3) pa_nil)) (pg_tup rfl (pgs_cons (pg_name (i := 7) scNetwork.nd rfl (.inl rfl)) (pgs_cons (pg_name (i := 8) scNetwork.nd rfl (.inl rfl)) pgs_nil)))
      (pss_one (ps_for PassesOwn.never rfl (pi_range2 rfl T.range (pa_cons (pe_op op_add (pv 7) pe_int) (pa_cons (pv 1) pa_nil))) (pg_name (i := 9) scNetwork.nd rfl (.inl rfl))
        (pss_cons (ps_set (i := 10) scNetwork.nd rfl (.inl rfl) (pe_or (pe_not (pv 2)) (pe_one (pe_cmpR op_ne (eL K (pv 6) (pv 7)) (eL K (pv 6) (pv 9)) (nomark _)))))
        (pss_one (ps_if (PW.pt (pw_and (pt_val (pv 10)) (pw_and (pt_cmpR op_lt (eLen K T (pv 4)) pe_int (nomark _)) (pw_and1 (pt_cmpR op_eq (pe_df GD hr pass0 (pa_cons (pv 0) (pa_cons (pv 5) pa_nil))) pe_int (nomark _))))))
          (pss_one (ps_expr (pe_bm PySem.F.plainAttrs_list PySem.F.slot_list_append PySem.F.type_list_append mt_append (pv 4) (pa_cons (pe_tup (pa_cons (pv 8) (pa_cons (eL K (pv 3) (pv 9)) pa_nil))) pa_nil)))) pss_nil))))))
    (pss_one (ps_ret (pe_tup (pa_cons (eTupF K T (pv 3)) (pa_cons (eTup K T (pv 4)) pa_nil))))))), ?_⟩
  walk_at "nf"
  obtain ⟨own, seed, cnt, hDo, _⟩ := id hD
  refine ⟨D, b, m, rfl, hD, by omega, by omega, fun sp ns H1 nd hl hok hsp k1 d1 hs1 => ⟨by decide, fun tp htp => ⟨by decide, fun lp hlp => ?_⟩⟩⟩
  have htp0 : H tp = none := k1.free1 d1 htp
  have s2 : Same H1 (upd (upd H1 tp (.lst [])) lp (.lst [.int 1, .int 2, .int 3, .int 6])) := (Same.new htp).snew hlp
  have e2 : upd (upd H1 tp (.lst [])) lp (.lst [.int 1, .int 2, .int 3, .int 6]) lp = some (.lst ([1, 2, 3, 6].map V.int)) := upd_same
  have t2 : upd (upd H1 tp (.lst [])) lp (.lst [.int 1, .int 2, .int 3, .int 6]) tp = some (.lst []) := by rw [upd_ne (updN hlp).1.symm, upd_same]
  have hlp1 : H1 lp = none := (updN hlp).2
  generalize upd (upd H1 tp (.lst [])) lp (.lst [.int 1, .int 2, .int 3, .int 6]) = H2 at s2 e2 t2
  obtain ⟨o1, sd1, ct1, hD1, _⟩ := id d1
  have hDl : D ≠ lp := ne_of_none hD1 hlp1
  have hDt : D ≠ tp := ne_of_none hD1 htp
  have hst : sp ≠ tp := ne_of_none hs1 htp
  have hDs : D ≠ sp := ne_of_none hDo hsp
  refine ⟨D, lp, b + 2, [1, 2, 3, 6].map V.int, rfl, d1.keep (s2 D), by omega, by simp, by decide, .inl fun H' k => .of (k _ _ (fun z => hDl (List.mem_singleton.mp z).symm) e2), fun v H3 hv k3 d3 => ?_⟩
  obtain ⟨sh, hsh, rfl⟩ := List.mem_map.mp hv
  have hsh' : 1 ≤ sh ∧ sh ≤ 6 := by
    have : ∀ z ∈ ([1, 2, 3, 6] : List Int), 1 ≤ z ∧ z ≤ 6 := by decide
    exact this sh hsh
  have k03 : Keep [D] H H3 := k1.trans ((Keep.same s2).trans k3)
  have nD : ∀ {x : Addr}, D ≠ x → x ∉ [D] := fun h z => h (List.mem_singleton.mp z).symm
  have hs3 : H3 sp = some (.lst (ns.map V.str)) := k3 _ _ (nD hDs) (s2 _ _ hs1)
  have t3 : H3 tp = some (.lst []) := k3 _ _ (nD hDt) t2
  clear e2 t2 hv
  refine ⟨.ref sp, rfl, sp, rfl, ⟨_, .of hs3⟩, fun dl hdl => L2.lc_list (xs := ns.map V.str) (fun i H' => ∃ sd : List Int, H' dl = some (.lst (sd.map V.int)) ∧ sd.length = i ∧ (∀ z ∈ sd, z = 0 ∨ z = 1) ∧ Keep [D] H3 H' ∧ DeckAt H' D (b + 3 + i))
    ⟨[], upd_same, rfl, (fun _ h => nomatch h), .same (.new hdl), d3.keep (Same.new hdl D)⟩ (fun i H' _ ⟨sd, _, _, _, k, _⟩ => .of (k _ _ (nD hDs) hs3)) (fun i x H4 hx ⟨sd, h4, l4, v4, k4, d4⟩ => ?_) fun H6 ⟨sd, h6, l6, v6, k6, d6⟩ => ?_⟩
  · refine ⟨rfl, ?_⟩
    walk_at "nf"
    have hi : i < ns.length := by
      have := (List.getElem?_eq_some_iff.mp hx).1
      rw [List.length_map] at this
      exact this
    have hDd : D ≠ dl := by
      obtain ⟨_, _, _, e, _⟩ := d3
      exact ne_of_none e hdl
    refine ⟨D, b + 3 + i, 2, rfl, d4, by omega, by decide, by decide, fun r H5 r0 r1 k5 d5 => ⟨_, k5 _ _ (nD hDd) h4, by rw [List.length_map]; exact small1000 (by omega), sd ++ [r], by rw [upd_same, List.map_append]; rfl, by rw [List.length_append, l4]; rfl, fun z hz => ?_, (k4.trans k5).put hdl, d5.keep fun o e => by rw [upd_ne hDd]; exact e⟩⟩
    rcases List.mem_append.mp hz with hz | hz
    · exact v4 z hz
    · rw [List.mem_singleton.mp hz]; omega
  rw [List.length_map] at l6 d6
  have hs6 := k6 _ _ (nD hDs) hs3
  have t6 := k6 _ _ (nD hDt) t3
  have k06 := k03.trans k6
  have hdt : tp ≠ dl := ne_of_none t3 hdl
  have hDd : D ≠ dl := by
    obtain ⟨_, _, _, e, _⟩ := d3
    exact ne_of_none e hdl
  have hnn : ∀ {x : Addr}, D ≠ x → x ≠ tp → x ∉ [D, tp] := fun h1 h2 z => by
    rcases List.mem_cons.mp z with z | z
    · exact h1 z.symm
    · exact h2 (List.mem_singleton.mp z)
  have tupT : ∀ {Ha Hb : Hp} {tv : List V} {q : Nat}, DeckAt Ha D q → Ha tp = some (.lst tv) → Keep [D, tp] Ha Hb → TupS Ha Hb := fun {Ha Hb tv q} d e k => k.tupS fun a ha o ho => by
    obtain ⟨_, _, _, ed, _⟩ := d
    rw [List.mem_cons, List.mem_singleton] at ha
    rcases ha with rfl | rfl
    · rw [ed] at ho; cases ho; rfl
    · rw [e] at ho; cases ho; rfl
  refine ⟨.ref sp, rfl, sp, ns.map V.str, rfl, .of hs6, for_enumL (fun i σ' H' => ∃ (T : List (Str × Str)) (tv : List V) (u7 u8 u9 u10 : Option V), σ' = [some (.ref D), some (.int m), some (.bl true), some (.ref sp), some (.ref tp), some (.int sh), some (.ref dl), u7, u8, u9, u10, none] ∧ H' tp = some (.lst tv) ∧ Al H' T tv ∧ TInv ns sd i (i + 1) T ∧ Keep [D, tp] H6 H' ∧ DeckAt H' D (b + 13 + 10 * i))
    ⟨[], [], none, none, none, none, rfl, t6, .nil, .nil, .refl, d6.mono (by omega)⟩ (fun i σ' H' _ ⟨_, _, _, _, _, _, _, _, _, _, k, _⟩ => .of (k _ _ (hnn hDs hst) hs6)) (fun i x σ' H7 tt hx ⟨T0, tv0, u7, u8, u9, u10, eσ, t7, a7, i7, k7, d7⟩ htt => ?_) fun σ' H' hP => ?_⟩
  · subst eσ
    rw [List.getElem?_map] at hx
    obtain ⟨sa, hsa, rfl⟩ : ∃ sa, ns[i]? = some sa ∧ x = .str sa := by
      cases e : ns[i]? with
      | none => rw [e] at hx; cases hx
      | some a => rw [e] at hx; cases hx; exact ⟨a, rfl, rfl⟩
    have hi : i < ns.length := (List.getElem?_eq_some_iff.mp hsa).1
    refine ⟨tt, _, rfl, .of upd_same, rfl, _, _, rfl, _, _, rfl, rfl, ?_⟩
    have s8 : Same H7 (upd H7 tt (.tup [.int i, .str sa])) := .new htt
    generalize upd H7 tt (.tup [.int i, .str sa]) = H8 at s8
    refine G3.for_range (lo := (i : Int) + 1) (hi := (m : Int)) (fun R h => ⟨_, rfl, _, _, rfl, rfl, _, rfl, h⟩) ⟨by omega, by omega, by omega, by omega⟩
      (fun t σ' H' => ∃ (T : List (Str × Str)) (tv : List V) (u9 u10 : Option V), σ' = [some (.ref D), some (.int m), some (.bl true), some (.ref sp), some (.ref tp), some (.int sh), some (.ref dl), some (.int i), some (.str sa), u9, u10, none] ∧ H' tp = some (.lst tv) ∧ Al H' T tv ∧ TInv ns sd i (i + 1 + t) T ∧ Keep [D, tp] H6 H' ∧ DeckAt H' D (b + 13 + 10 * i + t))
      ⟨T0, tv0, _, _, rfl, s8 _ _ t7, a7.same s8, i7, k7.trans (.same s8), d7.keep (s8 D)⟩ (fun t a σ' H' ha ⟨T, tv, u9, u10, eσ, t9, a9, i9, k9, d9⟩ => ?_) fun σ' H' ⟨T, tv, u9, u10, eσ, t9, a9, i9, k9, d9⟩ => ⟨T, tv, _, _, _, _, eσ, t9, a9, i9.row, k9, d9.mono (by omega)⟩
    subst eσ
    walk_at "nf"
    have ht : t < ((m : Int) - ((i : Int) + 1)).toNat := by
      have := (List.getElem?_eq_some_iff.mp ha).1
      rw [irange_len] at this
      exact this
    rw [irange_get ht] at ha
    obtain rfl : (i : Int) + 1 + (t : Nat) = a := Option.some.inj ha
    obtain ⟨j, hj⟩ : ∃ j, j = i + 1 + t := ⟨_, rfl⟩
    have hja : (i : Int) + 1 + (t : Nat) = (j : Int) := by omega
    rw [hja]
    have hjl : j < ns.length := by omega
    obtain ⟨sb, hsb⟩ : ∃ sb, ns[j]? = some sb := ⟨_, List.getElem?_eq_getElem hjl⟩
    rw [← hj] at i9
    have sdv : ∀ z, z < ns.length → atI (sd.map V.int) (z : Int) = some (.int (sd.getD z 0)) := fun z hz => atI_nat (by
      rw [List.getElem?_map, List.getD_eq_getElem?_getD, List.getElem?_eq_getElem (by omega : z < sd.length)]
      rfl)
    have hd9 : H' dl = some (.lst (sd.map V.int)) := k9 _ _ (hnn hDd hdt.symm) h6
    have hs9 : H' sp = some (.lst (ns.map V.str)) := k9 _ _ (hnn hDs hst) hs6
    have tvl := Al.len a9
    have tl := i9.len
    refine ⟨true, rfl, false, rfl, iteF' rfl ⟨dl, _, i, _, rfl, rfl, .of hd9, sdv i hi, dl, _, j, _, rfl, rfl, .of hd9, sdv j hjl, rfl, _, rfl, ?_⟩⟩
    by_cases hne : sd.getD i 0 = sd.getD j 0
    · exact iteF' (by rw [hne]; simp) ⟨T, tv, _, _, rfl, t9, a9, i9.skip (by omega), k9, d9.mono (by omega)⟩
    refine iteT' (by rw [decide_eq_false (fun z => hne (V.int.inj z))]; rfl) (r_lenL (.of t9) ⟨_, _, rfl, rfl, _, rfl, ?_⟩)
    by_cases h40 : T.length < 40
    · refine iteT' (decide_eq_true (by rw [tvl]; omega)) ⟨D, b + 13 + 10 * i + t, sh, rfl, d9, by omega, by omega, by omega, fun r H10 r0 r1 k10 d10 => ⟨rfl, _, rfl, ?_⟩⟩
      have k10' : Keep [D, tp] H' H10 := fun a o hn e => k10 a o (fun z => hn (List.mem_cons.mpr (.inl (List.mem_singleton.mp z)))) e
      have a10 := a9.tup (tupT d9 t9 k10')
      have t10 := k10 _ _ (nD hDt) t9
      by_cases hr0 : r = 0
      · refine iteT' (by rw [hr0]; rfl) ⟨.inl ⟨rfl, _, .of t10⟩, sp, _, j, .str sb, rfl, rfl, .of (k10 _ _ (nD hDs) hs9), atI_nat (by rw [List.getElem?_map, hsb]; rfl), by decide, fun p hp => ?_⟩
        have s11 := Same.new (o := .tup [.str sa, .str sb]) hp
        have t11 := s11 _ _ t10
        have tt11 : TupS (upd H10 p (.tup [.str sa, .str sb])) (upd (upd H10 p (.tup [.str sa, .str sb])) tp (.lst (tv ++ [.ref p]))) := .lst t11
        refine ⟨tp, tv, .ref p, rfl, rfl, t11, small1000 (by omega), T ++ [(sa, sb)], tv ++ [.ref p], _, _, rfl, upd_same, ((a10.same s11).snoc (at_new2 hp (at_str.mpr rfl) (at_str.mpr rfl))).tup tt11, ?_, ((k9.trans k10').trans (.same s11)).trans (.upd (by simp)), (d10.keep (s11 D)).keep fun o e => by rw [upd_ne hDt]; exact e⟩
        have := i9.add (by omega) hjl hsa hsb hne h40
        rw [hj] at this
        exact this
      · exact iteF' (decide_eq_false fun z => hr0 (V.int.inj z)) ⟨T, tv, _, _, rfl, t10, a10, i9.skip (by omega), k9.trans k10', d10⟩
    · exact iteF' (decide_eq_false (by rw [tvl]; omega)) ⟨T, tv, _, _, rfl, t9, a9, i9.skip (by omega), k9, d9.mono (by omega)⟩
  · obtain ⟨T0, tv, u7, u8, u9, u10, rfl, t7, a7, i7, k7, d7⟩ := hP
    walk_at "nf"
    have hs7 : H' sp = some (.lst (ns.map V.str)) := k7 _ _ (hnn hDs hst) hs6
    rw [List.length_map] at i7 d7
    refine ⟨.ref sp, rfl, sp, ns.map V.str, rfl, .of hs7, fun a1 o ha1 ho => ?_⟩
    have s8 := Same.new (o := .frz o (.tup (ns.map V.str))) ha1
    have e8 : upd H' a1 (.frz o (.tup (ns.map V.str))) a1 = some (.frz o (.tup (ns.map V.str))) := upd_same
    generalize upd H' a1 (.frz o (.tup (ns.map V.str))) = H8 at s8 e8
    refine r_tupL (s8 _ _ t7) (al_paired.mp (a7.same s8)) fun tl htl hat => ⟨by decide, fun p hp => ?_⟩
    have s9 := Same.new (o := .tup tv) htl
    have s10 := Same.new (o := .tup [.ref a1, .ref tl]) hp
    have e10 := s10 _ _ (s9 _ _ e8)
    have kk : Keep [D] H H' := fun a o ha e => by
      by_cases z : a = tp
      · rw [z, htp0] at e; cases e
      · exact k7 a o (fun y => by
          rcases List.mem_cons.mp y with y | y
          · exact ha (List.mem_singleton.mpr y)
          · exact z (List.mem_singleton.mp y)) (k06 a o ha e)
    have kF : Keep [D] H (upd (upd H8 tl (.tup tv)) p (.tup [.ref a1, .ref tl])) := ((kk.trans (.same s8)).trans (.same s9)).trans (.same s10)
    have dF : DeckAt (upd (upd H8 tl (.tup tv)) p (.tup [.ref a1, .ref tl])) D (b + 200) := (((d7.keep (s8 D)).keep (s9 D)).keep (s10 D)).mono (by omega)
    have no : NetOk (ns, T0) := netok_drawn nd hok (by omega) (fun z => by rw [z] at hl; simp at hl; omega) v6 l6 i7
    refine q p (ns, T0) _ no hl ?_ kF ⟨at_pair.mpr ⟨p, .ref a1, .ref tl, rfl, .inl upd_same, at_strs.mpr ⟨a1, rfl, .inr ⟨o, e10⟩⟩, hat.same s10⟩, p, .ref a1, .ref tl, rfl, .inl upd_same, a1, o, rfl, e10, ho⟩ dF
    exact ((kk.trans (.same s8)).trans (.same s9)).free1 (((d7.keep (s8 D)).keep (s9 D))) hp
end
end G3
end

/-! ## G3Chain -/
section
set_option Elab.async false
set_option linter.all false
set_option maxRecDepth 100000
set_option maxHeartbeats 4000000
local macro_rules | `(tactic| walk_at "nf") => `(tactic| simp only [C8.tCut, G3.tWith, G3.dWith, G3.tLam0, G3.tLam1, G3.TTc, G3.TTr, L2.tRet, L2.tRetN, L2.tAndV, L2.tOrV, L2.tNotV, L2.tCB, L2.tCons, L2.tNil, L2.tVar, L2.tC, L2.tDIn, L2.tDNotIn, L2.tDGet, L2.tOp, L2.tUn, L2.tTest, L2.tB, L2.tIf, L2.tIfS, L2.tAnd, L2.tOr, L2.tNot, L2.tSeq, L2.tAsg, L2.gName, L2.tDrop, L2.tNext, L2.tCall, L2.tTup, L2.tLst, L2.tBM, L2.tBM0, L2.tSl, L2.tPart, L2.tNoPart, L2.sDPut, L2.tFld, L2.sFld, L2.tMeth, L2.tYes, L2.gTup, L2.gCons, L2.gNil, L2.tIsN, L2.tNotN, L2.tPar, L2.tPar3, L2.tDNewK, L2.tDisp, L2.tPairs, L2.tDGet1, StX.tStar, L2.gSub, L2.tProp, L2.tVeI, L2.tOst, L2.tMkO, L2.tDNewT, L2.tLock, G3.tFrzS, L2.tMake, L2.tDNewT, G3.lcL_fld, G3.lcT_fld, G3.forL_fld, G3.tListVals, G3.lc2T_op, G3.lc2L_call, L2.tGThen, L2.tG0, L2.tPlain, L2.GEnds.at, L2.tGYield, L2.tCallG, L2.tListG, G3.tTupIx, G3.dcT_op, G3.tFrz, G3.dcI_frz, G3.lcI_frz, G3.lcY_frz, G3.lcI_call, G3.lcT_lit, G3.forT_lit, G3.lcL_call, G3.lcL_op, G3.lcL_dget, G3.lcT_call, G3.lcT_op, G3.lcT_dget, G3.forL_call, G3.forL_op, G3.forL_dget, G3.forT_call, G3.forT_op, G3.forT_dget, G3.ex_l1, G3.ex_l2, G3.ex_l3,
  G3.start_eq, G3.cxOf_K, G3.wipe_nil, G3.wipe_cons, List.map_cons, List.map_nil, List.nil_append, List.cons_append, List.append_nil, List.getElem?_cons_zero, List.getElem?_cons_succ, List.set_cons_zero, List.set_cons_succ, List.set_nil, List.length_cons, List.length_nil, List.replicate, Option.some.injEq, G3.ex_eq, Nat.reduceAdd, Nat.reduceSub, Nat.zero_add, List.replicate_succ, List.replicate_zero, true_and, if_true, if_false, Bool.false_eq_true, Nat.add_zero, Int.add_zero])
namespace G3
open PySem PySem.Spec PyProof.Rows L2

abbrev sChain : Stmt := top 71
theorem scChain : FnScope ["_law_deck_here", "_law_steps", "_law_more", "_law_names_here", "_law_base", "_law_rows", "_law_at", "_law_near", "_law_some"] ["_law_deck_here", "_law_steps", "_law_more"] (defScope sChain) := ⟨rfl, rfl, rfl, by decide +kernel, rfl, by decide +kernel, by decide +kernel⟩
/-- a row of the catalog -/
def RowR : Rel (Str × List Int) := fun H p v => ∃ t j, v = .ref t ∧ H t = some (.tup [.str p.1, .ref j]) ∧ At H p.2 (.ref j)
theorem stab_row : Stab RowR := fun H H' p v k ⟨t, j, e, h1, h2⟩ => ⟨t, j, e, k _ _ h1 rfl, h2.tup k⟩
theorem RowR.at_ {H : Hp} {p : Str × List Int} {v : V} (h : RowR H p v) : At H p v :=
  let ⟨t, j, e, h1, h2⟩ := h
  at_pair.mpr ⟨t, _, _, e, .inl h1, at_str.mpr rfl, h2⟩
theorem paired_perm {α β : Type} {R : α → β → Prop} {vs ys : List β} (p : ys.Perm vs) : ∀ {l : List α}, Paired R l vs → ∃ l', l'.Perm l ∧ Paired R l' ys := by
  induction p with
  | nil => intro l h; cases h; exact ⟨[], .nil, .nil⟩
  | cons x _ ih =>
    intro l h
    cases h with
    | cons r t =>
      obtain ⟨l', h1, h2⟩ := ih t
      exact ⟨_ :: l', h1.cons _, .cons r h2⟩
  | swap x y l0 =>
    intro l h
    cases h with
    | cons r t =>
      cases t with
      | cons r2 t2 => exact ⟨_, .swap _ _ _, .cons r2 (.cons r t2)⟩
  | trans _ _ ih1 ih2 =>
    intro l h
    obtain ⟨l1, h1, h2⟩ := ih2 h
    obtain ⟨l2, h3, h4⟩ := ih1 h2
    exact ⟨l2, h3.trans h1, h4⟩
theorem paired_ix {α β : Type} {R : α → β → Prop} : ∀ {l : List α} {vs : List β} {i : Nat} {v : β}, Paired R l vs → vs[i]? = some v → ∃ a, l[i]? = some a ∧ R a v
  | _, _, _, _, .nil, h => by cases h
  | _, _, 0, _, .cons r _, h => by cases h; exact ⟨_, rfl, r⟩
  | _, _, i + 1, _, .cons _ t, h => by
    obtain ⟨a, h1, h2⟩ := paired_ix (i := i) t (by simpa using h)
    exact ⟨a, by simpa using h1, h2⟩
theorem paired_len {α β : Type} {R : α → β → Prop} : ∀ {l : List α} {vs : List β}, Paired R l vs → vs.length = l.length
  | _, _, .nil => rfl
  | _, _, .cons _ t => by rw [List.length_cons, List.length_cons, paired_len t]
theorem paired_snoc {α β : Type} {R : α → β → Prop} {a : α} {b : β} (r : R a b) : ∀ {l : List α} {vs : List β}, Paired R l vs → Paired R (l ++ [a]) (vs ++ [b])
  | _, _, .nil => .cons r .nil
  | _, _, .cons q t => .cons q (paired_snoc r t)
theorem row_al {H : Hp} : ∀ {l : Cat} {vs : List V}, Paired (RowR H) l vs → Al H l vs
  | _, _, .nil => .nil
  | _, _, .cons r t => .cons r.at_ (row_al t)
theorem r_slTakeE {α : Type} [Enc α] {K : PySem.W.Frag} {H : Hp} {l : List α} {v : V} {k : Nat} {Q : VK} (h : At H l v) (q : ∀ p H', Same H H' → At H' (l.take k) (.ref p) → Q (.ref p) H') : rSlA K v none (some (k : Int)) H Q := by
  obtain ⟨a, xs, rfl, ha, hx⟩ := at_list.mp h
  refine ⟨a, xs, rfl, .inl ha, fun ⟨_, e⟩ => ?_, fun _ p hp => ?_⟩
  · rw [HT.sIx_nat] at e
    refine q a H (.refl _) ?_
    rw [List.take_of_length_le (by rw [← Al.len hx]; omega)]
    exact h
  · refine q p _ (.new hp) ?_
    have e : cutV xs none (some (k : Int)) = xs.take k := by
      unfold cutV
      rw [HT.sIx_nat, HT.sIx_none, List.drop_zero, Nat.sub_zero]
      rcases Nat.le_total k xs.length with h | h
      · rw [Nat.min_eq_left h]
      · rw [Nat.min_eq_right h, List.take_of_length_le (by simp), List.take_of_length_le h]
    rw [e]
    exact .new hp (hx.take k)
def spChain : Sp := fun vs H Q _ => ∃ (D : Addr) (b st mo : Nat), vs = [.ref D, .int st, .int mo] ∧ DeckAt H D b ∧ b ≤ 800000 ∧ 1 ≤ st ∧ st ≤ 5 ∧ mo ≤ 3 ∧ ∀ (p : Addr) (v0 v1 : V) (c : Cat) H', CatOk c → c ≠ [] → Keep [D] H H' → H' p = some (.tup [v0, v1]) → CatAt H' c v0 → DeckAt H' D (b + 100) → Q (.ref p) H'
section
variable {P : Program} {w : World} {K : PySem.W.Frag} {mg : Str → Option Value} {base : Heap}
theorem ok_chain (T : Bt mg) (GD : Df P w K mg base CX0 1 "_law_draw" ["_law_deck_here", "_law_many"] spDraw) (GA : Df P w K mg base CX0 2 "_law_any" ["_law_deck_here", "_law_items"] (spAny K)) (GT : Df P w K mg base CX0 2 "_law_turned" ["_law_deck_here", "_law_items"] spTurned) (GN : Df P w K mg base CX0 3 "_law_names" ["_law_deck_here", "_law_many"] spNames) (F : St0 K mg "_law_chain" sChain) : Df P w K mg base CX0 4 "_law_chain" ["_law_deck_here", "_law_steps", "_law_more"] spChain := by
  refine F.ok0 scChain (fun vs H Q E h => ?_) (fun _ _ _ _ _ _ us hl => match us, hl with | [_, _, _], _ => rfl) fun f cdv A outer s H vs Q E hr h => ?_
  · obtain ⟨D, b, st, mo, rfl, _⟩ := h
    rfl
  obtain ⟨D, b, st, mo, rfl, hD, hb, hs1, hs5, hm3, q⟩ := h
  refine ⟨_, pss_cons (ps_set (i := 3) scChain.nd rfl (.inr rfl) (pe_df GT hr pass0 (pa_cons (pv 0) (pa_cons (pe_df GN hr pass0 (pa_cons (pv 0) (pa_cons (pe_op op_add (pe_op op_add (pv 1) pe_int) (pv 2)) pa_nil))) pa_nil))))
    (pss_cons (ps_set (i := 4) scChain.nd rfl (.inr rfl) (pe_df GA hr pass0 (pa_cons (pv 0) (pa_cons (pe_lst (pa_cons pe_int (pa_cons pe_int (pa_cons (pe_op op_sub (pe_op op_powW pe_int pe_int) pe_int) pa_nil)))) pa_nil))))
    (pss_cons (ps_setLc (i := 5) (own := [("_law_at", 6)]) (g := gName 6) rfl scChain.nd rfl rfl (sw_true rfl rfl rfl (by decide +kernel)) (pi_range1 rfl T.range (pa_cons (pe_op op_add (pv 1) pe_int) pa_nil)) (blkOk_by (by rfl)) (fun _ _ _ _ _ => pg_name (i := 6) scChain.nd rfl (Or.inl rfl)) (fun _ _ _ _ _ => pts_nil)
      (fun _ _ _ _ _ => pe_tup (pa_cons (eL K (pv 3) (pv 6)) (pa_cons (pe_tup (pa_cons (pe_op op_add (pv 4) (pv 6)) (pa_cons (pe_op op_add (pe_op op_add (pv 4) (pv 6)) pe_int) pa_nil))) pa_nil))))
    (pss_cons (ps_for PassesOwn.never rfl (pi_range1 rfl T.range (pa_cons (pv 2) pa_nil)) (pg_name (i := 6) scChain.nd rfl (.inl rfl))
      (pss_cons (ps_set (i := 7) scChain.nd rfl (.inl rfl) (eT K (eL K (pv 5) (pe_df GD hr pass0 (pa_cons (pv 0) (pa_cons (pe_op op_add (pv 1) pe_int) pa_nil)))) pe_int))
      (pss_cons (ps_set (i := 8) scChain.nd rfl (.inl rfl) (pe_lst (pa_cons (pv 7) (pa_cons (pe_slice (slT K) (pv 7) po_none (po_some pe_int)) (pa_cons (pe_tup (pa_cons (pe_op op_add (pe_op op_add (pv 4) pe_int) (pv 6)) pa_nil)) (pa_cons (pe_op (opCatT K) (pv 7) (pe_tup (pa_cons (pe_op op_add (pe_op op_add (pv 4) pe_int) (pv 6)) pa_nil))) pa_nil))))))
      (pss_one (ps_expr (pe_bm PySem.F.plainAttrs_list PySem.F.slot_list_append PySem.F.type_list_append mt_append (pv 5) (pa_cons (pe_tup (pa_cons (eL K (pv 3) (pe_op op_add (pe_op op_add (pv 1) pe_int) (pv 6))) (pa_cons (pe_df GA hr pass0 (pa_cons (pv 0) (pa_cons (pv 8) pa_nil))) pa_nil))) pa_nil)))))))
    (pss_one (ps_ret (pe_tup (pa_cons (eTupF K T (pe_callB (cr_sortedSR (X := (cxOf CX0 P w K mg base ["_law_deck_here", "_law_steps", "_law_more", "_law_names_here", "_law_base", "_law_rows", "_law_at", "_law_near", "_law_some"] "_law_chain" (defScope sChain) f cdv A outer s H E).nox)) rfl T.sorted boot_sorted (pa_cons (pv 5) pa_nil) (by decide) (by decide))) (pa_cons (eTup K T (pe_slice sl_list (pv 3) po_none (po_some (pe_op op_add (pv 1) pe_int)))) pa_nil)))))))), ?_⟩
  walk_at "nf"
  obtain ⟨own, seed, cnt, hDo, _⟩ := id hD
  refine ⟨_, _, rfl, rfl, _, _, rfl, rfl, D, b, st + 1 + mo, rfl, hD, by omega, by omega, fun ap ns0 H1 nd0 hl0 hok0 hap k1 d1 ha1 => ?_⟩
  have haD : ap ≠ D := (ne_of_none hDo hap).symm
  refine ⟨D, ap, b + 2, ns0, rfl, d1, by omega, ha1, haD, by omega, hok0, fun np ns H2 hpm hnp k2 d2 hn2 => ?_⟩
  have nd : ns.Nodup := hpm.nodup_iff.mpr nd0
  have hl : ns.length = st + 1 + mo := hpm.length_eq.trans hl0
  have hok : ∀ x ∈ ns, Enc.ok x := fun x hx => hok0 x (hpm.mem_iff.mp hx)
  have hnp0 : H np = none := k1.free1 d1 hnp
  have hDn : D ≠ np := ne_of_none hDo hnp0
  have k02 := k1.trans k2
  refine ⟨_, _, rfl, rfl, ⟨by decide, by decide +kernel⟩, _, _, rfl, rfl, by decide, fun lp hlp => ?_⟩
  have s3 := Same.new (o := .lst [.int 0, .int 5, .int ((10 : Int) ^ (9 : Int).toNat - 60)]) hlp
  have e3 : upd H2 lp (.lst [.int 0, .int 5, .int ((10 : Int) ^ (9 : Int).toNat - 60)]) lp = some (.lst ([0, 5, (10 : Int) ^ (9 : Int).toNat - 60].map V.int)) := upd_same
  generalize upd H2 lp (.lst [.int 0, .int 5, .int ((10 : Int) ^ (9 : Int).toNat - 60)]) = H3 at s3 e3
  have nD : ∀ {x : Addr}, D ≠ x → x ∉ [D] := fun h z => h (List.mem_singleton.mp z).symm
  have hDl : D ≠ lp := by
    obtain ⟨_, _, _, e, _⟩ := d2
    exact ne_of_none e hlp
  rw [hl0] at d2
  refine ⟨D, lp, b + 2 + (st + 1 + mo), [0, 5, (10 : Int) ^ (9 : Int).toNat - 60].map V.int, rfl, d2.keep (s3 D), by omega, by simp, by decide, .inl fun H' k => .of (k _ _ (nD hDl) e3), fun v H4 hv k4 d4 => ?_⟩
  obtain ⟨bs, _, rfl⟩ := List.mem_map.mp hv
  have k04 := k02.trans ((Keep.same s3).trans k4)
  have hn4 : H4 np = some (.lst (ns.map V.str)) := k4 _ _ (nD hDn) (s3 _ _ hn2)
  clear e3 hv
  have nsg : ∀ {i : Nat}, i < ns.length → ns[i]? = some (ns.getD i Str.empty) := fun h => getD_at h
  refine lc_range1 (hi := (st : Int) + 1) (fun R h => ⟨_, rfl, _, _, rfl, rfl, h⟩) ⟨by omega, by omega⟩ RowR stab_row (fun _ => true) (fun a => (ns.getD a.toNat Str.empty, [bs + a, bs + a + 1])) (small1000 (by omega)) (fun a H5 R ha s5 kp _ => ?_) fun rl rv0 H5 hrl s5 h5 hpd => ?_
  · refine ⟨rfl, ?_⟩
    walk_at "nf"
    have ha' := irange_mem.mp ha
    obtain ⟨j, rfl⟩ : ∃ j : Nat, a = (j : Int) := ⟨a.toNat, by omega⟩
    have hj : j < ns.length := by omega
    refine ⟨np, _, j, .str (ns.getD j Str.empty), rfl, rfl, .of (s5 _ _ hn4), atI_nat (by rw [List.getElem?_map, nsg hj]; rfl), _, _, rfl, rfl, _, _, rfl, rfl, _, _, rfl, rfl, by decide, fun p1 hp1 => ⟨by decide, fun p2 hp2 => ?_⟩⟩
    refine kp (.ref p2) _ ((Same.new hp1).snew hp2) rfl ⟨p2, p1, rfl, upd_same, ?_⟩
    exact (At.new hp1 (al_int.mpr rfl)).same (.new hp2)
  rw [filter_true] at hpd
  have hn5 := s5 _ _ hn4
  have d5 := d4.keep (s5 D)
  have k05 := k04.trans (.same s5)
  have hDr : D ≠ rl := by
    obtain ⟨_, _, _, e, _⟩ := d4
    exact ne_of_none e hrl
  have hnr : np ≠ rl := ne_of_none hn4 hrl
  have hnn : ∀ {x : Addr}, D ≠ x → x ≠ rl → x ∉ [D, rl] := fun h1 h2 z => by
    rcases List.mem_cons.mp z with z | z
    · exact h1 z.symm
    · exact h2 (List.mem_singleton.mp z)
  have tupT : ∀ {Ha Hb : Hp} {tv : List V} {q : Nat}, DeckAt Ha D q → Ha rl = some (.lst tv) → Keep [D, rl] Ha Hb → TupS Ha Hb := fun {Ha Hb tv q} d e k => k.tupS fun a ha o ho => by
    obtain ⟨_, _, _, ed, _⟩ := d
    rw [List.mem_cons, List.mem_singleton] at ha
    rcases ha with rfl | rfl
    · rw [ed] at ho; cases ho; rfl
    · rw [e] at ho; cases ho; rfl
  have st1 : ((st : Int) + 1).toNat = st + 1 := by omega
  rw [st1] at hpd
  refine ⟨_, rfl, (mo : Int), rfl, by omega, by omega, L2.for_range (fun t σ' H' => ∃ (rows : Cat) (rv : List V) (u6 u7 u8 : Option V), σ' = [some (.ref D), some (.int st), some (.int mo), some (.ref np), some (.int bs), some (.ref rl), u6, u7, u8] ∧ H' rl = some (.lst rv) ∧ Paired (RowR H') rows rv ∧ rows.map (·.1) = ns.take (st + 1 + t) ∧ (∀ p ∈ rows, p.2 ≠ [] ∧ p.2.length ≤ 2 + t) ∧ Keep [D, rl] H5 H' ∧ DeckAt H' D (b + 15 + 2 * t))
    ⟨(irange 0 (st + 1)).map (fun a => (ns.getD a.toNat Str.empty, [bs + a, bs + a + 1])), rv0, none, none, none, rfl, h5, hpd, ?_, fun p hp => ?_, .refl, d5.mono (by omega)⟩ (fun t σ' H6 ht ⟨rows, rv, u6, u7, u8, eσ, h6, p6, n6, l6, k6, d6⟩ => ?_) fun σ' H6 ⟨rows, rv, u6, u7, u8, eσ, h6, p6, n6, l6, k6, d6⟩ => ?_⟩
  · rw [List.map_map]
    refine List.ext_getElem? fun i => ?_
    by_cases hi : i < st + 1
    · rw [List.getElem?_map, irange_get hi, List.getElem?_take_of_lt (by omega), nsg (by omega)]
      show some (ns.getD (0 + (i : Int)).toNat Str.empty) = _
      rw [show (0 + (i : Int)).toNat = i by omega]
    · rw [List.getElem?_eq_none (by rw [List.length_map, irange_len]; omega), List.getElem?_eq_none (by rw [List.length_take]; omega)]
  · obtain ⟨a, _, rfl⟩ := List.mem_map.mp hp
    exact ⟨by simp, by simp⟩
  · subst eσ
    rw [Int.toNat_natCast] at ht
    have rlen : rows.length = st + 1 + t := by
      have := congrArg List.length n6
      rw [List.length_map, List.length_take] at this
      omega
    walk_at "nf"
    have dd : ∀ {x : Addr}, x ∈ [D] → x ∈ [D, rl] := fun z => List.mem_cons.mpr (.inl (List.mem_singleton.mp z))
    have kk : ∀ {Ha Hb : Hp}, Keep [D] Ha Hb → Keep [D, rl] Ha Hb := fun k a o hn e => k a o (fun z => hn (dd z)) e
    refine ⟨_, _, rfl, rfl, D, b + 15 + 2 * t, (st : Int) + 1, rfl, d6, by omega, by omega, by omega, fun r H7 r0 r1 k7 d7 => ?_⟩
    obtain ⟨j, rfl⟩ : ∃ j : Nat, r = (j : Int) := ⟨r.toNat, by omega⟩
    have h7 : H7 rl = some (.lst rv) := k7 _ _ (nD hDr) h6
    have t67 : TupS H6 H7 := tupT d6 h6 (kk k7)
    have p7 : Paired (RowR H7) rows rv := Paired.mapP p6 fun p v q => stab_row _ _ _ _ t67 q
    have hjv : j < rv.length := by rw [paired_len p7]; omega
    obtain ⟨pj, hpj, tj, jj, ev, e1, e2⟩ := paired_ix p7 (List.getElem?_eq_getElem hjv)
    refine ⟨rl, rv, j, rv[j], rfl, rfl, .of h7, atI_nat (List.getElem?_eq_getElem hjv), ?_⟩
    rw [ev]
    refine ⟨tj, _, 1, .ref jj, rfl, rfl, .of e1, atI_nat (j := 1) rfl, ((1 : Nat) : Int), rfl, r_slTakeE (k := 1) e2 fun q1 H8 s8 a8 => ⟨_, _, rfl, rfl, _, _, rfl, rfl, by decide, fun q2 hq2 => ⟨_, _, rfl, rfl, _, _, rfl, rfl, by decide, fun q3 hq3 => ?_⟩⟩⟩
    have s9 := Same.new (o := .tup [.int (bs + 30 + (0 + (t : Int)))]) hq2
    have a9 : At (upd H8 q2 (.tup [.int (bs + 30 + (0 + (t : Int)))])) [bs + 30 + (0 + (t : Int))] (.ref q2) := .new hq2 (al_int.mpr rfl)
    generalize upd H8 q2 (.tup [.int (bs + 30 + (0 + (t : Int)))]) = H9 at s9 a9 hq3
    have s10 := Same.new (o := .tup [.int (bs + 45 + (0 + (t : Int)))]) hq3
    have a10 : At (upd H9 q3 (.tup [.int (bs + 45 + (0 + (t : Int)))])) [bs + 45 + (0 + (t : Int))] (.ref q3) := .new hq3 (al_int.mpr rfl)
    generalize upd H9 q3 (.tup [.int (bs + 45 + (0 + (t : Int)))]) = H10 at s10 a10
    have s710 := (s8.trans s9).trans s10
    have lpj := l6 pj (List.mem_of_getElem? hpj)
    refine r_cat (e2.same s710) a10 (by rw [List.length_singleton]; omega) fun u H11 s11 a11 => ⟨by decide, fun sp hsp => ?_⟩
    have s12 := Same.new (o := .lst [.ref jj, .ref q1, .ref q2, u]) hsp
    have e12 : upd H11 sp (.lst [.ref jj, .ref q1, .ref q2, u]) sp = some (.lst [.ref jj, .ref q1, .ref q2, u]) := upd_same
    generalize upd H11 sp (.lst [.ref jj, .ref q1, .ref q2, u]) = H12 at s12 e12
    have s712 := (s710.trans s11).trans s12
    have hit : ∀ v ∈ [V.ref jj, V.ref q1, V.ref q2, u], ∃ its : List Int, At H12 its v ∧ its ≠ [] ∧ its.length ≤ 2 + (t + 1) := fun v hv => by
      simp only [List.mem_cons, List.not_mem_nil, or_false] at hv
      rcases hv with rfl | rfl | rfl | rfl
      · exact ⟨_, e2.same s712, lpj.1, by omega⟩
      · refine ⟨_, a8.same (((s9.trans s10).trans s11).trans s12), fun z => lpj.1 ?_, ?_⟩
        · cases hc : pj.2 with
          | nil => rfl
          | cons a l => rw [hc] at z; cases z
        · rw [List.length_take]; omega
      · exact ⟨_, a9.same ((s10.trans s11).trans s12), by simp, by rw [List.length_singleton]; omega⟩
      · exact ⟨_, a11.same s12, by simp, by rw [List.length_append, List.length_singleton]; omega⟩
    have hn12 : H12 np = some (.lst (ns.map V.str)) := s712 _ _ (k7 _ _ (nD hDn) (k6 _ _ (hnn hDn hnr) hn5))
    have h12 := s712 _ _ h7
    have d12 := d7.keep (s712 D)
    have hix : (st : Int) + 1 + (0 + (t : Int)) = ((st + 1 + t : Nat) : Int) := by omega
    have hin : st + 1 + t < ns.length := by omega
    have hDs : D ≠ sp := by
      obtain ⟨_, _, _, e, _⟩ := d7
      exact ne_of_none ((s710.trans s11) _ _ e) hsp
    refine ⟨.inl ⟨rfl, _, .of h12⟩, _, _, rfl, rfl, _, _, rfl, rfl, np, _, _, .str (ns.getD (st + 1 + t) Str.empty), rfl, rfl, .of hn12, by rw [hix]; exact atI_nat (by rw [List.getElem?_map, nsg hin]; rfl), D, sp, b + 15 + 2 * t + 1, _, rfl, d12, by omega, by simp, (by show 4 ≤ 1000; decide), .inl fun H' k => .of (k _ _ (nD hDs) e12), fun v H13 hv k13 d13 => ⟨by decide, fun p hp => ?_⟩⟩
    obtain ⟨its, ait, nit, lit⟩ := hit v hv
    have h13 := k13 _ _ (nD hDr) h12
    have t1213 := tupT d12 h12 (kk k13)
    have s14 := Same.new (o := .tup [.str (ns.getD (st + 1 + t) Str.empty), v]) hp
    have h14 := s14 _ _ h13
    have t14 : TupS _ _ := TupS.lst (u := .lst (rv ++ [.ref p])) h14
    have ait14 := (ait.tup t1213).same s14
    obtain ⟨jv, xv, ejv, hjv2, hxv⟩ := at_list.mp ait14
    subst ejv
    have hpr : p ≠ rl := (ne_of_none h13 hp).symm
    refine ⟨rl, rv, .ref p, rfl, rfl, h14, small1000 (by rw [paired_len p7]; omega), rows ++ [(ns.getD (st + 1 + t) Str.empty, its)], rv ++ [.ref p], _, _, _, rfl, upd_same, paired_snoc ⟨p, jv, rfl, by rw [upd_ne hpr, upd_same], ait14.tup t14⟩ (Paired.mapP p7 fun p v q => stab_row _ _ _ _ (((s712.tupS.trans t1213).trans s14.tupS).trans t14) q), ?_, fun z hz => ?_, (((k6.trans (kk k7)).trans (.same s712)).trans (kk k13)).trans ((Keep.same s14).trans (.upd (by simp))), ?_⟩
    · rw [List.map_append, n6, List.map_cons, List.map_nil]
      show ns.take (st + 1 + t) ++ [ns.getD (st + 1 + t) Str.empty] = ns.take (st + 1 + t + 1)
      rw [List.take_succ, nsg hin]
      rfl
    · rcases List.mem_append.mp hz with hz | hz
      · exact ⟨(l6 z hz).1, by have := (l6 z hz).2; omega⟩
      · rw [List.mem_singleton.mp hz]
        exact ⟨nit, lit⟩
    · exact ((d13.mono (by omega)).keep (s14 D)).keep fun o e => by rw [upd_ne hDr]; exact e
  · subst eσ
    rw [Int.toNat_natCast] at n6 l6 d6
    walk_at "nf"
    have rlen : rows.length = st + 1 + mo := by
      have := congrArg List.length n6
      rw [List.length_map, List.length_take] at this
      omega
    have rnd : (rows.map (·.1)).Nodup := by rw [n6]; exact nd.sublist (List.take_sublist _ _)
    have hn6 : H6 np = some (.lst (ns.map V.str)) := k6 _ _ (hnn hDn hnr) hn5
    refine ⟨_, rfl, rl, rv, rfl, .of h6, fun x hx => ?_, fun x hx y hy t u i j j' ex ey e1 e2 => ?_, fun ys sp hpm hsp => ⟨sp, ys, rfl, .of upd_same, fun a o ha ho => ?_⟩⟩
    · obtain ⟨i, hi⟩ := List.mem_iff_getElem?.mp hx
      obtain ⟨pj, _, tj, jj, ev, e1, _⟩ := paired_ix p6 hi
      exact ⟨tj, pj.1, jj, ev, e1⟩
    · obtain ⟨a, ha⟩ := List.mem_iff_getElem?.mp hx
      obtain ⟨b', hb'⟩ := List.mem_iff_getElem?.mp hy
      obtain ⟨pa, hpa, ta, ja, eva, ea, _⟩ := paired_ix p6 ha
      obtain ⟨pb, hpb, tb, jb, evb, eb, _⟩ := paired_ix p6 hb'
      rw [ex] at eva
      rw [ey] at evb
      cases eva
      cases evb
      rw [e1] at ea
      rw [e2] at eb
      simp only [Option.some.injEq, HO.tup.injEq, List.cons.injEq, V.str.injEq, V.ref.injEq, and_true] at ea eb
      have hab : a = b' := nodup_ix rnd (i := a) (j := b') (x := i) (by rw [List.getElem?_map, hpa]; exact congrArg some ea.1.symm) (by rw [List.getElem?_map, hpb]; exact congrArg some eb.1.symm)
      subst hab
      rw [ha, ex] at hb'
      rw [ey] at hb'
      cases hb'
      rw [e1] at e2
      simp only [Option.some.injEq, HO.tup.injEq, List.cons.injEq, V.str.injEq, V.ref.injEq, and_true, true_and] at e2
      exact e2
    · obtain ⟨c, hc, pc⟩ := paired_perm hpm p6
      have s7 := Same.new (o := .lst ys) hsp
      have s8 := Same.new (o := .frz o (.tup ys)) ha
      have e8 : upd (upd H6 sp (.lst ys)) a (.frz o (.tup ys)) a = some (.frz o (.tup ys)) := upd_same
      generalize upd (upd H6 sp (.lst ys)) a (.frz o (.tup ys)) = H8 at s8 e8
      refine ⟨_, _, rfl, rfl, _, rfl, np, _, rfl, .of (s8 _ _ (s7 _ _ hn6)), fun q1 hq1 => ⟨q1, _, rfl, .inl ⟨.of upd_same, fun l hl => ⟨by decide, fun p hp => ?_⟩⟩⟩⟩
      have s9 := Same.new (o := .lst (cutV (ns.map V.str) none (some ((st : Int) + 1)))) hq1
      have s10 := Same.new (o := .tup (cutV (ns.map V.str) none (some ((st : Int) + 1)))) hl
      have s11 := Same.new (o := .tup [.ref a, .ref l]) hp
      have s611 := (((s7.trans s8).trans s9).trans s10).trans s11
      have mem : ∀ z ∈ c, z ∈ rows := fun z hz => hc.mem_iff.mp hz
      have kF : Keep [D] H H6 := fun a o ha e => by
        by_cases z : a = rl
        · have := k04 a o ha e
          rw [z, hrl] at this
          cases this
        · exact k6 a o (fun y => by
            rcases List.mem_cons.mp y with y | y
            · exact ha (List.mem_singleton.mpr y)
            · exact z (List.mem_singleton.mp y)) (k05 a o ha e)
      refine q p (.ref a) (.ref l) c _ ⟨(hc.map (·.1)).nodup_iff.mpr rnd, fun z hz => ⟨hok _ ?_, fun _ _ => trivial⟩, fun z hz => (l6 z (mem z hz)).1, by rw [hc.length_eq]; omega, fun z hz => small1000 (by have := (l6 z (mem z hz)).2; omega)⟩ ?_ (kF.trans (.same s611)) upd_same ⟨a, o, ys, rfl, s11 _ _ (s10 _ _ (s9 _ _ e8)), ho, (row_al pc).same s611⟩ ((d6.mono (by omega)).keep (s611 D))
      · have : z.1 ∈ rows.map (·.1) := List.mem_map.mpr ⟨z, mem z hz, rfl⟩
        rw [n6] at this
        exact List.mem_of_mem_take this
      · intro z
        have := hc.length_eq
        rw [z, List.length_nil] at this
        omega
end
end G3
end

/-! ## G3DeckM -/
section
set_option Elab.async false
set_option linter.all false
set_option maxRecDepth 100000
set_option maxHeartbeats 4000000
local macro_rules | `(tactic| walk_at "nf") => `(tactic| simp only [C8.tCut, G3.tWith, G3.dWith, G3.tLam0, G3.tLam1, G3.TTc, G3.TTr, L2.tRet, L2.tRetN, L2.tAndV, L2.tOrV, L2.tNotV, L2.tCB, L2.tCons, L2.tNil, L2.tVar, L2.tC, L2.tDIn, L2.tDNotIn, L2.tDGet, L2.tOp, L2.tUn, L2.tTest, L2.tB, L2.tIf, L2.tIfS, L2.tAnd, L2.tOr, L2.tNot, L2.tSeq, L2.tAsg, L2.gName, L2.tDrop, L2.tNext, L2.tCall, L2.tTup, L2.tLst, L2.tBM, L2.tBM0, L2.tSl, L2.tPart, L2.tNoPart, L2.sDPut, L2.tFld, L2.sFld, L2.tMeth, L2.tYes, L2.gTup, L2.gCons, L2.gNil, L2.tIsN, L2.tNotN, L2.tPar, L2.tPar3, L2.tDNewK, L2.tDisp, L2.tPairs, L2.tDGet1, StX.tStar, L2.gSub, L2.tProp, L2.tVeI, L2.tOst, L2.tMkO, L2.tDNewT, L2.tLock, G3.tFrzS, L2.tMake, L2.tDNewT, G3.lcL_fld, G3.lcT_fld, G3.forL_fld, G3.tListVals, G3.lc2T_op, G3.lc2L_call, L2.tGThen, L2.tG0, L2.tPlain, L2.GEnds.at, L2.tGYield, L2.tCallG, L2.tListG, G3.tTupIx, G3.dcT_op, G3.tFrz, G3.dcI_frz, G3.lcI_frz, G3.lcY_frz, G3.lcI_call, G3.lcT_lit, G3.forT_lit, G3.lcL_call, G3.lcL_op, G3.lcL_dget, G3.lcT_call, G3.lcT_op, G3.lcT_dget, G3.forL_call, G3.forL_op, G3.forL_dget, G3.forT_call, G3.forT_op, G3.forT_dget, G3.ex_l1, G3.ex_l2, G3.ex_l3,
  G3.start_eq, G3.cxOf_K, G3.wipe_nil, G3.wipe_cons, List.map_cons, List.map_nil, List.nil_append, List.cons_append, List.append_nil, List.getElem?_cons_zero, List.getElem?_cons_succ, List.set_cons_zero, List.set_cons_succ, List.set_nil, List.length_cons, List.length_nil, List.replicate, Option.some.injEq, G3.ex_eq, Nat.reduceAdd, Nat.reduceSub, Nat.zero_add, List.replicate_succ, List.replicate_zero, true_and, if_true, if_false, Bool.false_eq_true, Nat.add_zero, Int.add_zero])
namespace G3
open PySem PySem.Spec PyProof.Rows L2

/-! ### the deck -/
theorem scDeck0 : True := trivial
def spDeck (K : PySem.W.Frag) : Sp := fun vs H Q _ => ∃ (a : Addr) (ns : List Int) (k : Nat), vs = [.ref a, .int k] ∧ SqL K H a (ns.map V.int) ∧ ns.length ≤ 63 ∧ k ≤ 2 ∧ ∀ (p : Addr) H', H p = none → Same H H' → DeckAt H' p 0 → Q (.ref p) H'
section
variable {P : Program} {w : World} {K : PySem.W.Frag} {mg : Str → Option Value} {base : Heap} {C : Addr}
theorem ok_deck (T : Bt mg) (F : St0 K mg "_law_deck" sDeck) : Df P w K mg base CX0 1 "_law_deck" ["_law_script", "_law_k"] (spDeck K) := by
  refine F.ok0 scDeck (fun vs H Q E h => ?_) (fun _ _ _ _ _ _ us hl => match us, hl with | [_, _], _ => rfl) fun f cdv A outer s H vs Q E hr h => ?_
  · obtain ⟨a, ns, k, rfl, _⟩ := h
    rfl
  obtain ⟨a, ns, k, rfl, ha, hl, hk, q⟩ := h
  refine ⟨_, pss_cons (ps_set (i := 2) scDeck.nd rfl (.inl rfl) (pe_op op_add (pe_op op_mul pe_int (pv 1)) pe_int))
    (C8.pss_cut (ps_if (pt_cmpR op_lt (pv 1) (eLen K T (pv 0)) (nomark _)) (pss_one (ps_set (i := 2) scDeck.nd rfl (.inl rfl) (eL K (pv 0) (pv 1)))) pss_nil)
    (pss_cons (ps_set (i := 3) scDeck.nd rfl (.inl rfl) (pe_op op_mul (pe_op op_mod (pe_callB call_abs rfl T.abs boot_abs (pa_cons (pv 2) pa_nil) (by decide) (by decide)) (pe_op op_powW (pe_op op_powW pe_int pe_int) pe_int))
        (pe_callTy call_int1 rfl T.int boot_int (pa_cons (pe_cmpR op_ge (pe_callB call_abs rfl T.abs boot_abs (pa_cons (pv 2) pa_nil) (by decide) (by decide)) (pe_op op_powW pe_int pe_int) (nomark _)) pa_nil) (by decide) (by decide) rfl)))
    (pss_one (ps_ret (pe_lst (pa_cons (pv 3) (pa_cons (pe_op op_mod (pe_op op_add (pe_op op_add (pe_op op_mul (pe_op op_mod (pv 2) pe_int) pe_int) (pe_op op_mul (pe_op op_mul pe_int (pv 1)) (pv 1))) pe_int) pe_int) (pa_cons pe_int pa_nil)))))))), ?_⟩
  walk_at "nf"
  refine ⟨_, _, rfl, rfl, .inl ⟨by decide, by decide⟩, _, _, rfl, rfl, fun σ' H' => ∃ cell : Int, σ' = [some (.ref a), some (.int k), some (.int cell), none] ∧ H' = H, ?_, fun σ' H' hM => ?_⟩
  · refine r_lenL ha ⟨_, _, rfl, rfl, _, rfl, ?_⟩
    rw [List.length_map]
    by_cases h : k < ns.length
    · refine iteT' (decide_eq_true (by omega)) ⟨a, _, k, .int ns[k], rfl, rfl, ha, atI_nat (by rw [List.getElem?_map, List.getElem?_eq_getElem h]; rfl), _, rfl, rfl⟩
    · exact iteF' (decide_eq_false (by omega)) ⟨_, rfl, rfl⟩
  obtain ⟨cell, rfl, rfl⟩ := hM
  walk_at "nf"
  have pos : (0 : Int) < ((10 : Int) ^ (60 : Int).toNat) ^ (5 : Int).toNat := by decide +kernel
  refine ⟨cell, rfl, _, _, rfl, rfl, ⟨by decide, by decide +kernel⟩, _, _, rfl, rfl, ⟨by decide, by decide +kernel⟩, _, _, rfl, rfl, pos, cell, rfl, _, _, rfl, rfl, ⟨by decide, by decide +kernel⟩, _, _, rfl, rfl, .inr ⟨_, rfl, ?_⟩⟩
  have own0 := Int.emod_nonneg (if cell < 0 then -cell else cell) (Int.ne_of_gt pos)
  show rI CMul (fun i j => V.int (i * j)) (.int ((if cell < 0 then -cell else cell) % ((10 : Int) ^ (60 : Int).toNat) ^ (5 : Int).toNat)) _ _ _
  generalize (if cell < 0 then -cell else cell) % ((10 : Int) ^ (60 : Int).toNat) ^ (5 : Int).toNat = own at own0 ⊢
  obtain ⟨t, ht, t0⟩ : ∃ t : Int, t = (if decide ((10 : Int) ^ (18 : Int).toNat ≤ if cell < 0 then -cell else cell) = true then 1 else 0) ∧ (t = 0 ∨ t = 1) := ⟨_, rfl, by
    generalize decide ((10 : Int) ^ (18 : Int).toNat ≤ if cell < 0 then -cell else cell) = b
    cases b <;> simp⟩
  rw [← ht]
  have tb : -(2 ^ 64) < t ∧ t < 2 ^ 64 := by omega
  have kk : (k : Int) * 1 ≤ 2 := by omega
  refine ⟨_, _, rfl, rfl, .inr tb, _, _, rfl, rfl, (by show (0 : Int) < 2305843009213693951; decide), _, _, rfl, rfl, .inr ⟨by decide, by decide⟩, _, _, rfl, rfl, .inl ⟨by decide, by decide⟩, _, _, rfl, rfl, .inr ⟨by omega, by omega⟩, _, _, rfl, rfl, _, _, rfl, rfl, _, _, rfl, rfl, (by show (0 : Int) < 2305843009213693921; decide), by decide, fun p hp => q p _ hp (.new hp) ⟨_, _, 0, upd_same, ?_, Int.emod_nonneg _ (by decide), Int.emod_lt_of_pos _ (by decide), by decide, by decide⟩⟩
  rcases t0 with z | z
  · rw [z]; omega
  · rw [z]; omega
end
theorem forT_meth {K : PySem.W.Frag} {H : Hp} {σ : L2.St} {g : TG} {tu : TS} {D : Ends} {C : Addr} {m : Str} {sp : Sp} {ds : List V} {E : XK} {ta : TE} {t : TA} : tFor (iTup K (tMeth C m sp ds E ta t)) g tu D σ H = (tMeth C m sp ds E ta t) σ H fun x H1 => tFor (iTup K (tK x H1)) g tu D σ H1 := rfl
theorem repl_det {n : Net} {c : Cat} {st st1 st2 : State} {p : Str × Str} (nd : n.1.Nodup) (h1 : Repl n c st p st1) (h2 : Repl n c st p st2) : st1 = st2 := by
  obtain ⟨i, e1, e2⟩ := h1.at_
  obtain ⟨j, e3, e4⟩ := h2.at_
  have := nodup_ix nd e1 e3
  subst this
  rw [e2, e4]
end G3
end

/-! ## G3Moment -/
section
set_option Elab.async false
set_option linter.all false
set_option maxRecDepth 100000
set_option maxHeartbeats 4000000
local macro_rules | `(tactic| walk_at "nf") => `(tactic| simp only [C8.tCut, G3.tWith, G3.dWith, G3.tLam0, G3.tLam1, G3.TTc, G3.TTr, L2.tRet, L2.tRetN, L2.tAndV, L2.tOrV, L2.tNotV, L2.tCB, L2.tCons, L2.tNil, L2.tVar, L2.tC, L2.tDIn, L2.tDNotIn, L2.tDGet, L2.tOp, L2.tUn, L2.tTest, L2.tB, L2.tIf, L2.tIfS, L2.tAnd, L2.tOr, L2.tNot, L2.tSeq, L2.tAsg, L2.gName, L2.tDrop, L2.tNext, L2.tCall, L2.tTup, L2.tLst, L2.tBM, L2.tBM0, L2.tSl, L2.tPart, L2.tNoPart, L2.sDPut, L2.tFld, L2.sFld, L2.tMeth, L2.tYes, L2.gTup, L2.gCons, L2.gNil, L2.tIsN, L2.tNotN, L2.tPar, L2.tPar3, L2.tDNewK, L2.tDisp, L2.tPairs, L2.tDGet1, StX.tStar, L2.gSub, L2.tProp, L2.tVeI, L2.tOst, L2.tMkO, L2.tDNewT, L2.tLock, G3.tFrzS, L2.tMake, L2.tDNewT, G3.lcL_fld, G3.lcT_fld, G3.forL_fld, G3.tListVals, G3.lc2T_op, G3.lc2L_call, L2.tGThen, L2.tG0, L2.tPlain, L2.GEnds.at, L2.tGYield, L2.tCallG, L2.tListG, G3.tTupIx, G3.dcT_op, G3.tFrz, G3.dcI_frz, G3.lcI_frz, G3.lcY_frz, G3.lcI_call, G3.lcT_lit, G3.forT_lit, G3.lcL_call, G3.lcL_op, G3.lcL_dget, G3.lcT_call, G3.lcT_op, G3.lcT_dget, G3.forL_call, G3.forL_op, G3.forL_dget, G3.forT_meth, G3.forT_call, G3.forT_op, G3.forT_dget, G3.ex_l1, G3.ex_l2, G3.ex_l3,
  G3.start_eq, G3.cxOf_K, G3.wipe_nil, G3.wipe_cons, List.map_cons, List.map_nil, List.nil_append, List.cons_append, List.append_nil, List.getElem?_cons_zero, List.getElem?_cons_succ, List.set_cons_zero, List.set_cons_succ, List.set_nil, List.length_cons, List.length_nil, List.replicate, Option.some.injEq, G3.ex_eq, Nat.reduceAdd, Nat.reduceSub, Nat.zero_add, List.replicate_succ, List.replicate_zero, true_and, if_true, if_false, Bool.false_eq_true, Nat.add_zero, Int.add_zero])
namespace G3
open PySem PySem.Spec PyProof.Rows L2

/-! ### a moment is right -/
abbrev sMoment : Stmt := top 75
theorem scMoment : FnScope ["_law_held", "_law_net", "_law_rows", "_law_start", "_law_first", "_law_fresh", "_law_service", "_law_name"] ["_law_held", "_law_net", "_law_rows", "_law_start"] (defScope sMoment) := ⟨rfl, rfl, rfl, by decide +kernel, rfl, by decide +kernel, by decide +kernel⟩
theorem op_fleq {X : Cx} {C : Addr} {j k : Nat} {R : Addr → Addr → Hp → Prop} (G : Mf X.prog X.w X.K X.mg X.base CX0 j C "__eq__" ["self", "other"] (spEq R)) (hr : Room k X.A) (hj : j ≤ k) : OpR X (compareOp .Eq) (rEqG (DIns C R)) := by
  obtain ⟨f, fd, hm, hb, F⟩ := G
  exact op_eqG (rcG_ins F hm.at_ hm.fn hb pass0) (hr.mono hj)
theorem valid_start {n : Net} {c : Cat} {x : Str} (co : CatOk c) (hx : x ∈ c.map (·.1)) : Valid n c (List.replicate n.1.length x) := by
  intro p hp a b ha hb
  have h : ∀ {s y : Str}, look n (List.replicate n.1.length x) s = some y → y = x := fun {s y} e => by
    have := gv_some e
    have := (List.of_mem_zip this).2
    exact (List.mem_replicate.mp this).2
  rw [h ha, h hb]
  exact mates_self co hx
theorem stok_start {n : Net} {c : Cat} {x : Str} (hx : x ∈ c.map (·.1)) : StOk n c (List.replicate n.1.length x) := ⟨by rw [List.length_replicate], fun r hr => by rw [(List.mem_replicate.mp hr).2]; exact hx⟩
def spMoment (C : Addr) : Sp := fun vs H Q _ => ∃ (F : Addr) (n : Net) (c : Cat) (vn vc : V) (x : Str) (ms : Mom) (k : Nat), vs = [.ref F, vn, vc, .str x] ∧ FlAt H C F vn vc ms ∧ FC H n c vn vc ∧ x ∈ c.map (·.1) ∧ Hist n c (List.replicate n.1.length x) k ms ∧ k ≤ 26 ∧ ∀ H', Same H H' → Q (.bl true) H'
section
variable {P : Program} {w : World} {K : PySem.W.Frag} {mg : Str → Option Value} {base : Heap} {C CB : Addr}
theorem ok_moment (T0 : Bt mg) (T : FCls K C) (M : MkC K C) (hC : mg "Fleet" = some (.ref C)) (GV : Df P w K mg base CX0 3 "is_valid" ["network", "catalog", "value"] spIsValid) (GRun : Df P w K mg base CX0 7 "run" ["network", "catalog", "state", "schedule"] spRun)
    (GI : Mf P w K mg base CX0 3 C "__init__" ["self", "network", "catalog", "start"] (spFInit C)) (GS : Pf P w K mg base CX0 1 C "state" ["self"] (spFState C)) (GM : Pf P w K mg base CX0 1 C "made" ["self"] (spFMade C)) (GL : Mf P w K mg base CX0 1 C "log" ["self"] (spFLog C))
    (GT : Mf P w K mg base CX0 8 C "tried" ["self", "schedule"] (spFTried C)) (GR : Mf P w K mg base (CX P w) 5 C "replace" ["self", "service", "release"] (spFReplace C CB)) (GQ : Mf P w K mg base CX0 1 C "__eq__" ["self", "other"] (spEq (FEqv C))) (F : St0 K mg "_law_moment_right" sMoment) :
    Df P w K mg base CX0 9 "_law_moment_right" ["_law_held", "_law_net", "_law_rows", "_law_start"] (spMoment C) := by
  refine F.ok0 scMoment (fun vs H Q E h => ?_) (fun _ _ _ _ _ _ us hl => match us, hl with | [_, _, _, _], _ => rfl) fun f cdv A outer s H vs Q E hr h => ?_
  · obtain ⟨F, n, c, vn, vc, x, ms, k, rfl, _⟩ := h
    rfl
  obtain ⟨F, n, c, vn, vc, x, ms, k, rfl, hF, fc, hx, hist, hk, q⟩ := h
  refine ⟨_, pss_cons (ps_set (i := 4) scMoment.nd rfl (.inl rfl) (pe_op (op_repA K) (pe_tup (pa_cons (pv 3) pa_nil)) (eLen K T0 (eT K (pv 1) pe_int))))
    (pss_cons (ps_if (PW.pt (pw_or (pt_not (pt_val (pe_df GV hr pass0 (pa_cons (pv 1) (pa_cons (pv 2) (pa_cons (pe_pf (E := E0) GS T.cl hr (pv 0)) pa_nil)))))) (pw_or1 (pt_cmpR (opNeD K hr.units) (pe_df GRun hr pass0 (pa_cons (pv 1) (pa_cons (pv 2) (pa_cons (pv 4) (pa_cons (pe_mf0 GL T.cl hr pass0 (pv 0) (by decide)) pa_nil))))) (pe_pf (E := E0) GS T.cl hr (pv 0)) (nomark _))))) pss_never pss_nil)
    (pss_cons (ps_set (i := 5) scMoment.nd rfl (.inl rfl) (pe_mk M GI hr hC pass0 (pa_cons (pv 1) (pa_cons (pv 2) (pa_cons (pv 3) pa_nil)))))
    (pss_cons (ps_if (PW.pt (pw_or (pt_cmpR (opNeD K hr.units) (pe_mf GT T.cl hr pass0 (pv 5) (pa_cons (pe_mf0 GL T.cl hr pass0 (pv 0) (by decide)) pa_nil) (by decide)) (pe_pf (E := E0) GS T.cl hr (pv 0)) (nomark _)) (pw_or1 (pt_cmpR op_ne (pe_pf (E := E0) GM T.cl hr (pv 5)) pe_int (nomark _))))) pss_never pss_nil)
    (pss_cons (ps_for PassesOwn.never rfl (piT K (pe_mf0 GL T.cl hr pass0 (pv 0) (by decide))) (pg_tup rfl (pgs_cons (pg_name (i := 6) scMoment.nd rfl (.inl rfl)) (pgs_cons (pg_name (i := 7) scMoment.nd rfl (.inl rfl)) pgs_nil)))
      (pss_one (ps_expr (pe_mf GR T.cl hr passX (pv 5) (pa_cons (pv 6) (pa_cons (pv 7) pa_nil)) (by decide)))))
    (pss_one (ps_ret (pe_and (pe_cmpR (op_fleq GQ hr (by decide)) (pv 5) (pv 0) (nomark _)) (pe_one (pe_chain op_eq op_eq (pe_pf (E := E0) GM T.cl hr (pv 5)) (pe_pf (E := E0) GM T.cl hr (pv 0)) (eLen K T0 (pe_mf0 GL T.cl hr pass0 (pv 0) (by decide)))))))))))), ?_⟩
  walk_at "nf"
  obtain ⟨qm, rest, rfl⟩ := hist.ne
  have so := stok_start (n := n) hx
  have va := valid_start (n := n) fc.co hx
  have rq := hist.run qm List.mem_cons_self
  have sq := rq.ok so
  have vq := rq.valid fc.no fc.co so va
  have ql : qm.2.length ≤ 400 := by have := hist.len qm List.mem_cons_self; omega
  have hn1 : 1 ≤ n.1.length := by
    cases e : n.1 with
    | nil => exact absurd e fc.no.ne
    | cons a b => simp
  have qok : Enc.ok qm := mom_ok fc so hist List.mem_cons_self
  obtain ⟨dx, mv, hF0, hmv⟩ := id hF
  refine ⟨by decide, fun p hp => r_p0 (fc.same (.new hp)).net.1 fun w hw => r_lenT' hw (r_rep (r := x) (.new hp (al_str.mpr rfl)) hn1 (Nat.le_trans fc.no.len (by decide)) fun u H1 s1 hu => ?_)⟩
  have sA : Same H H1 := (Same.new hp).trans s1
  refine ⟨F, dx, _, rfl, sA _ _ hF0, F, vn, vc, qm, rest, rfl, hF.same sA, fun u2 hu2 => ⟨n, c, qm.1, vn, vc, u2, rfl, (fc.same sA).net.1, (fc.same sA).cat, fc.co, fc.no, hu2, sq, vq, fun H2 s2 => ⟨true, rfl, iteF' rfl ?_⟩⟩⟩
  have sB := sA.trans s2
  refine ⟨F, dx, _, rfl, sB _ _ hF0, rfl, F, vn, vc, qm, rest, rfl, hF.same sB, fun u3 hu3 => ⟨n, c, _, qm.1, qm.2, vn, vc, u, u3, rfl, (fc.same sB).net, (fc.same sB).cat, fc.co, fc.no, hu.same s2, so, hu3, ql, rq, fun u4 H3 s3 hu4 => ?_⟩⟩
  have sC := sB.trans s3
  refine ⟨F, dx, _, rfl, sC _ _ hF0, F, vn, vc, qm, rest, rfl, hF.same sC, fun u5 hu5 => r_ne hu4 hu5 qok.1 qok.1 ⟨_, rfl, iteF' (by rw [decide_eq_true rfl]; rfl) ?_⟩⟩
  intro Fr dr hFr hdr hne
  have s4 : Same H3 (upd (upd H3 dr (.own Fr)) Fr (.ins C dr [])) := (Same.new hdr).trans (.new (by rw [upd_ne hne.symm]; exact hFr))
  refine ⟨Fr, dr, n, c, x, vn, vc, rfl, upd_same, fc.same (sC.trans s4), hx, fun H4 k4 f4 => ⟨rfl, ?_⟩⟩
  have sD : Same H H4 := fun a o e => k4 a o (fun z => ne_of_none (sC _ _ e) hFr (List.mem_singleton.mp z)) (s4 _ _ (sC _ _ e))
  obtain ⟨dr4, mr4, hFr4, _⟩ := id f4
  refine ⟨Fr, dr4, _, rfl, hFr4, rfl, F, dx, _, rfl, sD _ _ hF0, rfl, F, vn, vc, qm, rest, rfl, hF.same sD, fun u6 hu6 => ⟨Fr, n, c, vn, vc, u6, (List.replicate n.1.length x, []), [], qm.2, qm.1, rfl, f4, fc.same sD, so, hu6, ql, rq, fun u7 H5 s5 hu7 => ?_⟩⟩
  have sE := sD.trans s5
  have f5 := f4.same s5
  refine ⟨F, dx, _, rfl, sE _ _ hF0, F, vn, vc, qm, rest, rfl, hF.same sE, fun u8 hu8 => r_ne hu7 hu8 qok.1 qok.1 ⟨_, rfl, iteF' (by rw [decide_eq_true rfl]; rfl) ⟨Fr, dr4, _, rfl, s5 _ _ hFr4, Fr, vn, vc, (List.replicate n.1.length x, []), [], rfl, f5, rfl, _, rfl, iteF' rfl ?_⟩⟩⟩
  refine ⟨F, dx, _, rfl, sE _ _ hF0, rfl, F, vn, vc, qm, rest, rfl, hF.same sE, fun u9 hu9 => ?_⟩
  obtain ⟨pl, xl, rfl, rl, al⟩ := at_list.mp hu9
  have hFr0 : H Fr = none := sC.free hFr
  have hFr5 := s5 _ _ hFr4
  have same6 : ∀ {H' : Hp}, Keep [Fr] H5 H' → Same H H' := fun k a o e => k a o (fun z => ne_of_none e hFr0 (List.mem_singleton.mp z)) (sE _ _ e)
  refine for_tup (l := qm.2) (xs := xl) (fun R h => h) ⟨.inl rl, al⟩ (fun i σ' H' => ∃ (st : State) (ms' : Mom) (a b : Option V), σ' = [some (.ref F), some vn, some vc, some (.str x), some u, some (.ref Fr), a, b] ∧ Keep [Fr] H5 H' ∧ FlAt H' C Fr vn vc ((st, qm.2.take i) :: ms') ∧ Runs n c (List.replicate n.1.length x) (qm.2.take i) st ∧ Runs n c st (qm.2.drop i) qm.1)
    (fun i σ' H' ⟨_, _, _, _, _, k, _⟩ => k.tupS fun a ha o ho => by
      rw [List.mem_singleton.mp ha, hFr5] at ho
      cases ho
      rfl) ⟨_, [], none, none, rfl, .refl, f5, rfl, rq⟩ (fun i a xa σ' H' hia ⟨st, ms', ua, ub, eσ, k6, f6, r1, r2⟩ hxa => ?_) fun σ' H' ⟨st, ms', ua, ub, eσ, k6, f6, r1, r2⟩ => ?_
  · subst eσ
    obtain ⟨sv, rv⟩ := a
    refine g_pair hxa fun y z hy hz => ?_
    rw [at_str.mp hy, at_str.mp hz]
    walk_at "nf"
    obtain ⟨dr6, mr6, hFr6, _⟩ := id f6
    have hdrop : qm.2.drop i = (sv, rv) :: qm.2.drop (i + 1) := by
      have hi : i < qm.2.length := (List.getElem?_eq_some_iff.mp hia).1
      rw [List.drop_eq_getElem_cons hi]
      congr 1
      have := List.getElem?_eq_getElem hi
      rw [hia] at this
      exact (Option.some.inj this).symm
    rw [hdrop] at r2
    obtain ⟨st1, rep, r3⟩ := r2
    have hrel := rq.rel (sv, rv) (List.mem_of_getElem? hia)
    have htk : qm.2.take i ++ [(sv, rv)] = qm.2.take (i + 1) := by rw [List.take_succ, hia]; rfl
    refine ⟨Fr, dr6, _, rfl, hFr6, rfl, Fr, n, c, vn, vc, (st, qm.2.take i), ms', sv, rv, rfl, f6, fc.same (same6 k6), r1.ok so, hrel.1, hrel.2, by show (qm.2.take i).length ≤ 900; rw [List.length_take]; omega, fun st' H7 hrep k7 f7 => ?_, fun hnf => absurd rep.free hnf⟩
    have : st' = st1 := repl_det fc.no.nd hrep rep
    subst this
    refine ⟨st', _, _, _, rfl, k6.trans k7, by rw [← htk]; exact f7, by rw [← htk]; exact r1.snoc rep, r3⟩
  · subst eσ
    rw [List.drop_length] at r2
    have hst : qm.1 = st := r2
    rw [List.take_length] at f6
    have hq : (st, qm.2) = qm := by rw [← hst]
    rw [hq] at f6
    have sF := same6 k6
    obtain ⟨dr6, mr6, hFr6, _⟩ := id f6
    walk_at "nf"
    refine ⟨⟨Fr, F, dr6, dx, _, _, rfl, rfl, hFr6, sF _ _ hF0, n, c, vn, vc, qm, ms', rest, f6, hF.same sF, fc.same sF, sq, fun p hp => rq.rel p hp⟩, fun H7 s7 => ⟨true, rfl, iteT' rfl ?_⟩⟩
    have s7 : Same H' H7 := s7
    have sG := sF.trans s7
    simp only [L2.tChain]
    try walk_at "nf"
    refine ⟨Fr, dr6, _, rfl, s7 _ _ hFr6, Fr, vn, vc, qm, ms', rfl, f6.same s7, F, dx, _, rfl, sG _ _ hF0, F, vn, vc, qm, rest, rfl, hF.same sG, rfl, _, rfl, iteT' (by rw [decide_eq_true rfl]) ⟨F, dx, _, rfl, sG _ _ hF0, rfl, F, vn, vc, qm, rest, rfl, hF.same sG, fun u10 hu10 => r_lenT' hu10 ⟨rfl, ?_⟩⟩⟩
    rw [decide_eq_true rfl]
    exact q H7 sG
end
end G3
end

/-! ## G3Right -/
section
set_option Elab.async false
set_option linter.all false
set_option maxRecDepth 100000
set_option maxHeartbeats 4000000
local macro_rules | `(tactic| walk_at "nf") => `(tactic| simp only [C8.tCut, G3.tWith, G3.dWith, G3.tLam0, G3.tLam1, G3.TTc, G3.TTr, L2.tRet, L2.tRetN, L2.tAndV, L2.tOrV, L2.tNotV, L2.tCB, L2.tCons, L2.tNil, L2.tVar, L2.tC, L2.tDIn, L2.tDNotIn, L2.tDGet, L2.tOp, L2.tUn, L2.tTest, L2.tB, L2.tIf, L2.tIfS, L2.tAnd, L2.tOr, L2.tNot, L2.tSeq, L2.tAsg, L2.gName, L2.tDrop, L2.tNext, L2.tCall, L2.tTup, L2.tLst, L2.tBM, L2.tBM0, L2.tSl, L2.tPart, L2.tNoPart, L2.sDPut, L2.tFld, L2.sFld, L2.tMeth, L2.tYes, L2.gTup, L2.gCons, L2.gNil, L2.tIsN, L2.tNotN, L2.tPar, L2.tPar3, L2.tDNewK, L2.tDisp, L2.tPairs, L2.tDGet1, StX.tStar, L2.gSub, L2.tProp, L2.tVeI, L2.tOst, L2.tMkO, L2.tDNewT, L2.tLock, G3.tFrzS, L2.tMake, L2.tDNewT, G3.lcL_fld, G3.lcT_fld, G3.forL_fld, G3.tListVals, G3.lc2T_op, G3.lc2L_call, L2.tGThen, L2.tG0, L2.tPlain, L2.GEnds.at, L2.tGYield, L2.tCallG, L2.tListG, G3.tTupIx, G3.dcT_op, G3.tFrz, G3.dcI_frz, G3.lcI_frz, G3.lcY_frz, G3.lcI_call, G3.lcT_lit, G3.forT_lit, G3.lcL_call, G3.lcL_op, G3.lcL_dget, G3.lcT_call, G3.lcT_op, G3.lcT_dget, G3.forL_call, G3.forL_op, G3.forL_dget, G3.forT_call, G3.forT_op, G3.forT_dget, G3.ex_l1, G3.ex_l2, G3.ex_l3,
  G3.start_eq, G3.cxOf_K, G3.wipe_nil, G3.wipe_cons, List.map_cons, List.map_nil, List.nil_append, List.cons_append, List.append_nil, List.getElem?_cons_zero, List.getElem?_cons_succ, List.set_cons_zero, List.set_cons_succ, List.set_nil, List.length_cons, List.length_nil, List.replicate, Option.some.injEq, G3.ex_eq, Nat.reduceAdd, Nat.reduceSub, Nat.zero_add, List.replicate_succ, List.replicate_zero, true_and, if_true, if_false, Bool.false_eq_true, Nat.add_zero, Int.add_zero])
namespace G3
open PySem PySem.Spec PyProof.Rows L2

open LamX (CodeO TabS TabB ExtN lamS_by lamCx lamEnv)
/-! ### a history is right -/
abbrev sRight : Stmt := top 76
theorem scRight : FnScope ["_law_deck_here", "_law_net", "_law_steps", "_law_rows", "_law_start", "_law_held", "_law_past", "_law_turn"] ["_law_deck_here"] (defScope sRight) := ⟨rfl, rfl, rfl, by decide +kernel, rfl, by decide +kernel, by decide +kernel⟩
/-- nothing is there but a store -/
def NN (H : Hp) (a : Addr) : Prop := ∀ o, H a = some o → ∃ q, o = .tbl q
theorem NN.none {H : Hp} {a : Addr} (h : H a = none) : NN H a := fun o e => by rw [h] at e; cases e
theorem NN.back {ps : List Addr} {H H' : Hp} {a : Addr} (k : KeepN ps H H') (hp : a ∉ ps) (h : H' a = .none) : NN H a := fun o e => by
  by_cases hq : ∃ q, o = .tbl q
  · exact hq
  · have := k a o hp e (fun q z => hq ⟨q, z⟩)
    rw [h] at this
    cases this
theorem KeepN.fresh {H H1 H2 : Hp} {D F L : Addr} (k1 : KeepN [D] H H1) (k2 : KeepN [D, F, L] H1 H2) (nF : NN H F) (nL : NN H L) : KeepN [D] H H2 := fun a o ha e n => by
  refine k2 a o (fun z => ?_) (k1 a o ha e n) n
  rcases List.mem_cons.mp z with rfl | z
  · exact ha (by simp)
  · rcases List.mem_cons.mp z with rfl | z
    · obtain ⟨q, hq⟩ := nF o e
      exact n q hq
    · rw [List.mem_singleton.mp z] at e
      obtain ⟨q, hq⟩ := nL o e
      exact n q hq
structure RI (H H' : Hp) (C D F L P0 : Addr) (b k : Nat) (n : Net) (c : Cat) (vn vc : V) (st0 : State) (ms : Mom) : Prop where
  keep : KeepN [D] H H'
  nF : NN H F
  nL : NN H L
  deck : DeckAt H' D b
  fl : FlAt H' C F vn vc ms
  fc : FC H' n c vn vc
  hist : Hist n c st0 k ms
  past : PastAt H' L ms
  tab : TabS2 H' P0 qL1 qL2
  hDL : D ≠ L
section
variable {H H' H'' : Hp} {C D F L P0 : Addr} {b k : Nat} {n : Net} {c : Cat} {vn vc : V} {st0 : State} {ms : Mom}
theorem RI.same (h : RI H H' C D F L P0 b k n c vn vc st0 ms) (s : Same H' H'') : RI H H'' C D F L P0 b k n c vn vc st0 ms :=
  ⟨h.keep.trans fun a o _ e _ => s a o e, h.nF, h.nL, h.deck.keep (s D), h.fl.same s, h.fc.same s, h.hist, let ⟨pv, e, a⟩ := h.past; ⟨pv, s _ _ e, a.same s⟩, h.tab.same s, h.hDL⟩
theorem RI.ft (h : RI H H' C D F L P0 b k n c vn vc st0 ms) : F ≠ D ∧ F ≠ L := by
  refine ⟨fun z => ?_, fun z => ?_⟩
  · obtain ⟨dx, mv, e, _⟩ := h.fl
    obtain ⟨own, sd, ct, q, _⟩ := h.deck
    rw [z, q] at e
    cases e
  · obtain ⟨dx, mv, e, _⟩ := h.fl
    obtain ⟨pv, q, _⟩ := h.past
    rw [z, q] at e
    cases e
theorem RI.drawn {b' : Nat} (h : RI H H' C D F L P0 b k n c vn vc st0 ms) (kd : Keep [D] H' H'') (d : DeckAt H'' D b') : RI H H'' C D F L P0 b' k n c vn vc st0 ms := by
  obtain ⟨own, sd, ct, q, _⟩ := h.deck
  have t : TupS H' H'' := kd.tupS fun a ha o ho => by
    rw [List.mem_singleton.mp ha, q] at ho
    cases ho
    rfl
  refine ⟨h.keep.trans (.of kd), h.nF, h.nL, d, h.fl.keep kd t (by simpa using h.ft.1), h.fc.tup t, h.hist, ?_, ?_, h.hDL⟩
  · obtain ⟨pv, e, a⟩ := h.past
    exact ⟨pv, kd _ _ (fun z => h.hDL (List.mem_singleton.mp z).symm) e, a.tup t⟩
  · exact h.tab.keep fun a o e n1 _ => kd a o (fun z => by
      rw [List.mem_singleton.mp z, q] at e
      exact n1 _ (Option.some.inj e).symm) e
theorem RI.called {ms' : Mom} {b' : Nat} (h : RI H H' C D F L P0 b k n c vn vc st0 ms) (hh : Hist n c st0 (k + 1) ms') (kk : KeepN [D, F, L] H' H'') (d : DeckAt H'' D b') (f : FlAt H'' C F vn vc ms') (fc : FC H'' n c vn vc) (p : PastAt H'' L ms') (t : TabS2 H'' P0 qL1 qL2) : RI H H'' C D F L P0 b' (k + 1) n c vn vc st0 ms' :=
  ⟨h.keep.fresh kk h.nF h.nL, h.nF, h.nL, d, f, fc, hh, p, t, h.hDL⟩
theorem RI.copied {F2 : Addr} (h : RI H H' C D F L P0 b k n c vn vc st0 ms) (hF2 : H' F2 = none) (s : Same H' H'') (f : FlAt H'' C F2 vn vc ms) : RI H H'' C D F2 L P0 b k n c vn vc st0 ms :=
  let g := h.same s
  ⟨g.keep, .back h.keep (fun z => by
    obtain ⟨own, sd, ct, q, _⟩ := h.deck
    rw [List.mem_singleton.mp z, q] at hF2
    cases hF2) hF2, g.nL, g.deck, f, g.fc, g.hist, g.past, g.tab, g.hDL⟩
end
theorem RI.undone {H H' H1 H2 : Hp} {C D F L P0 : Addr} {b k : Nat} {n : Net} {c : Cat} {vn vc : V} {st0 : State} {q q2 : State × Log} {ms : Mom} (h : RI H H' C D F L P0 b k n c vn vc st0 (q :: q2 :: ms)) (k1 : Keep [F] H' H1) (f1 : FlAt H1 C F vn vc (q2 :: ms)) (s : Same H1 H2) :
    ∃ ws y, H2 L = some (.lst (ws ++ [y])) ∧ At H2 q2 y ∧ TupS H2 (upd H2 L (.lst ws)) ∧ RI H (upd H2 L (.lst ws)) C D F L P0 b (k + 1) n c vn vc st0 (q2 :: ms) := by
  obtain ⟨hFD, hFL⟩ := h.ft
  obtain ⟨dx, mv, eF, _⟩ := id h.fl
  have t1 : TupS H' H1 := k1.tupS fun a ha o ho => by
    rw [List.mem_singleton.mp ha, eF] at ho
    cases ho
    rfl
  have t2 := t1.trans s.tupS
  obtain ⟨pv, eL, ha⟩ := h.past
  have l1 : H1 L = some (.lst pv) := k1 _ _ (fun z => hFL (List.mem_singleton.mp z).symm) eL
  have l2 := s _ _ l1
  have ha2 : Al H2 (q2 :: ms).reverse pv := ha.tup t2
  rw [List.reverse_cons] at ha2
  obtain ⟨ws, y, rfl, hws, hy⟩ := al_unsnoc ha2
  have t3 : TupS H2 (upd H2 L (.lst ws)) := .lst l2
  refine ⟨ws, y, l2, hy, t3, h.keep.fresh (F := F) (L := L) (fun a o hn e _ => ?_) h.nF h.nL, h.nF, h.nL, ?_, (f1.same s).keep (ps := [L]) (.upd (by simp)) t3 (by simpa using hFL), h.fc.tup (t2.trans t3), h.hist.pop, ⟨ws, upd_same, hws.tup t3⟩, ?_, h.hDL⟩
  · rw [upd_ne (fun z => hn (by simp [z]))]
    exact s _ _ (k1 a o (fun z => hn (by rw [List.mem_singleton.mp z]; simp)) e)
  · exact h.deck.keep fun o e => by
      rw [upd_ne h.hDL]
      exact s _ _ (k1 D o (fun z => hFD (List.mem_singleton.mp z).symm) e)
  · exact h.tab.keep fun a o e n1 n2 => by
      have : a ≠ L := fun z => by
        rw [z, eL] at e
        exact n1 _ (Option.some.inj e).symm
      rw [upd_ne this]
      exact s _ _ (k1 a o (fun z => by
        rw [List.mem_singleton.mp z, eF] at e
        exact n2 _ _ _ (Option.some.inj e).symm) e)
theorem DeckAt.tupS {H H' : Hp} {D : Addr} {b : Nat} (d : DeckAt H D b) (k : Keep [D] H H') : TupS H H' := by
  obtain ⟨own, sd, ct, q, _⟩ := d
  exact k.tupS fun a ha o ho => by
    rw [List.mem_singleton.mp ha, q] at ho
    cases ho
    rfl
def spRight (P0 : Addr) : Sp := fun vs H Q _ => ∃ (D : Addr), vs = [.ref D] ∧ DeckAt H D 0 ∧ TabS2 H P0 qL1 qL2 ∧ ∀ H', KeepN [D] H H' → TabS2 H' P0 qL1 qL2 → Q (.bl true) H'
section
variable {P : Program} {w : World} {K : PySem.W.Frag} {mg : Str → Option Value} {base : Heap} {C P0 : Addr}
theorem ok_right (T0 : Bt mg) (T : FCls K C) (M : MkC K C) (hC : mg "Fleet" = some (.ref C)) (GD : Df P w K mg base CX0 1 "_law_draw" ["_law_deck_here", "_law_many"] spDraw) (GA : Df P w K mg base CX0 2 "_law_any" ["_law_deck_here", "_law_items"] (spAny K))
    (GN : Df P w K mg base CX0 4 "_law_network" ["_law_deck_here", "_law_many", "_law_is_sided"] spNetwork) (GH : Df P w K mg base CX0 4 "_law_chain" ["_law_deck_here", "_law_steps", "_law_more"] spChain)
    (GC : Df P w K mg base CX0 122 "_law_called" ["_law_deck_here", "_law_held", "_law_net", "_law_rows", "_law_past"] (spCalled C P0)) (GMo : Df P w K mg base CX0 9 "_law_moment_right" ["_law_held", "_law_net", "_law_rows", "_law_start"] (spMoment C))
    (GI : Mf P w K mg base CX0 3 C "__init__" ["self", "network", "catalog", "start"] (spFInit C)) (GS : Pf P w K mg base CX0 1 C "state" ["self"] (spFState C)) (GL : Mf P w K mg base CX0 1 C "log" ["self"] (spFLog C)) (GU : Mf P w K mg base CX0 1 C "undo" ["self"] (spFUndo C)) (GCp : Mf P w K mg base CX0 6 C "copy" ["self"] (spFCopy C))
    (GQ : Mf P w K mg base CX0 1 C "__eq__" ["self", "other"] (spEq (FEqv C))) (F : St0 K mg "_law_right" sRight) :
    Df P w K mg base CX0 123 "_law_right" ["_law_deck_here"] (spRight P0) := by
  refine F.ok0 scRight (fun vs H Q E h => ?_) (fun _ _ _ _ _ _ us hl => match us, hl with | [_], _ => rfl) fun f cdv A outer s H vs Q E hr h => ?_
  · obtain ⟨D, rfl, _⟩ := h
    rfl
  obtain ⟨D, rfl, hD, hT2, q⟩ := h
  refine ⟨_, pss_cons (ps_par (i := 1) (j := 2) rfl scRight.nd rfl rfl (by decide) rfl rfl (pa_cons (pe_df GN hr pass0 (pa_cons (pv 0) (pa_cons (pe_op op_add pe_int (pe_df GD hr pass0 (pa_cons (pv 0) (pa_cons pe_int pa_nil)))) (pa_cons pe_bl pa_nil)))) (pa_cons (pe_op op_add pe_int (pe_df GD hr pass0 (pa_cons (pv 0) (pa_cons pe_int pa_nil)))) pa_nil)) rfl)
    (C8.pss_cut (ps_set (i := 3) scRight.nd rfl (.inl rfl) (eT K (pe_df GH hr pass0 (pa_cons (pv 0) (pa_cons (pv 2) (pa_cons (pe_df GD hr pass0 (pa_cons (pv 0) (pa_cons pe_int pa_nil))) pa_nil)))) pe_int))
    (pss_cons (ps_set (i := 4) scRight.nd rfl (.inl rfl) (eT K (pe_df GA hr pass0 (pa_cons (pv 0) (pa_cons (pv 3) pa_nil))) pe_int))
    (C8.pss_cut (ps_par (i := 5) (j := 6) rfl scRight.nd rfl rfl (by decide) rfl rfl (pa_cons (pe_mk M GI hr hC pass0 (pa_cons (pv 1) (pa_cons (pv 3) (pa_cons (pv 4) pa_nil)))) (pa_cons (pe_lst pa_nil) pa_nil)) rfl)
    (pss_cons (ps_for PassesOwn.never rfl (pi_range1 rfl T0.range (pa_cons pe_int pa_nil)) (pg_name (i := 7) scRight.nd rfl (.inl rfl))
      (pss_cons (ps_if (PW.pt (pw_or (pt_not (pt_val (pe_df GC hr pass0 (pa_cons (pv 0) (pa_cons (pv 5) (pa_cons (pv 1) (pa_cons (pv 3) (pa_cons (pv 6) pa_nil)))))))) (pw_or1 (pt_not (pt_val (pe_df GMo hr pass0 (pa_cons (pv 5) (pa_cons (pv 1) (pa_cons (pv 3) (pa_cons (pv 4) pa_nil)))))))))) pss_never pss_nil)
      (pss_one (ps_set (i := 5) scRight.nd rfl (.inl rfl) (pe_ifExp (pt_cmpR op_eq (pe_df GD hr pass0 (pa_cons (pv 0) (pa_cons pe_int pa_nil))) pe_int (nomark _)) (pe_mf0 GCp T.cl hr pass0 (pv 5) (by decide)) (pv 5))))))
    (pss_cons (ps_while PassesOwn.never (pt_cmpR (opNeD K hr.units) (pv 6) (pe_lst pa_nil) (nomark _))
      (pss_cons (ps_expr (pe_mf0 GU T.cl hr pass0 (pv 5) (by decide)))
      (pss_one (ps_if (pt_cmpR (opNeD K hr.units) (pe_tup (pa_cons (pe_pf (E := E0) GS T.cl hr (pv 5)) (pa_cons (pe_mf0 GL T.cl hr pass0 (pv 5) (by decide)) pa_nil))) (pe_bm0 PySem.F.plainAttrs_list PySem.F.slot_list_pop PySem.F.type_list_pop mt_pop (pv 6)) (nomark _)) pss_never pss_nil))))
    (pss_one (ps_ret (pe_and (pe_cmpR (op_fleq GQ hr (by decide)) (pv 5) (pe_mk M GI hr hC pass0 (pa_cons (pv 1) (pa_cons (pv 3) (pa_cons (pv 4) pa_nil)))) (nomark _)) (pe_one (pe_cmpR (opEqD K hr.units) (pe_pf (E := E0) GS T.cl hr (pv 5)) (pe_op (op_repA K) (pe_tup (pa_cons (pv 4) pa_nil)) (eLen K T0 (eT K (pv 1) pe_int))) (nomark _))))))))))), ?_⟩
  walk_at "nf"
  obtain ⟨own, sd, ct, hDo, hD0⟩ := id hD
  have tbD : ∀ {H' : Hp}, Keep [D] H H' → TabS2 H' P0 qL1 qL2 := fun k => hT2.keep fun a o e n1 _ => k a o (fun z => by
    rw [List.mem_singleton.mp z, hDo] at e
    exact n1 _ (Option.some.inj e).symm) e
  refine ⟨D, 0, 10, rfl, hD, by omega, by decide, by decide, fun r H1 r0 r1 k1 d1 => ⟨1, r, rfl, rfl, ?_⟩⟩
  obtain ⟨j, rfl⟩ : ∃ j : Nat, r = (j : Int) := ⟨r.toNat, by omega⟩
  refine ⟨D, 1, 1 + j, by show [V.ref D, V.int (1 + (j : Int)), V.bl true] = _; rw [show (1 + (j : Int)) = ((1 + j : Nat) : Int) by omega], d1, by omega, by omega, by omega, fun p n H2 no hn hp k2 net d2 => ?_⟩
  have k12 := k1.trans k2
  refine ⟨D, 201, 5, rfl, d2, by omega, by decide, by decide, fun r2 H3 r20 r21 k3 d3 => ⟨1, r2, rfl, rfl, ?_⟩⟩
  have k13 := k12.trans k3
  obtain ⟨j2, rfl⟩ : ∃ j : Nat, r2 = (j : Int) := ⟨r2.toNat, by omega⟩
  have net3 := net.tup (d2.tupS k3)
  generalize (V.int (1 + (j : Int))) = vj at *
  refine ⟨fun σ H' => ∃ (vs vc : V) (c : Cat), σ = [some (.ref D), some (.ref p), some vs, some vc, none, none, none, none] ∧ Keep [D] H H' ∧ DeckAt H' D 400 ∧ CatOk c ∧ c ≠ [] ∧ CatAt H' c vc ∧ NetD H' n (.ref p), ?_, fun σ' H' hM => ?_⟩
  · refine ⟨D, 202, 4, rfl, d3, by omega, by decide, by decide, fun r3 H4 r30 r31 k4 d4 => ?_⟩
    obtain ⟨j3, rfl⟩ : ∃ j : Nat, r3 = (j : Int) := ⟨r3.toNat, by omega⟩
    refine ⟨D, 203, 1 + j2, j3, by show [V.ref D, V.int (1 + (j2 : Int)), V.int (j3 : Int)] = _; rw [show (1 + (j2 : Int)) = ((1 + j2 : Nat) : Int) by omega], d4, by omega, by omega, by omega, by omega, fun p4 v0 v1 c H5 co cne k5 hp4 hc d5 => ⟨p4, [v0, v1], 0, v0, rfl, rfl, .of hp4, rfl, _, v0, c, rfl, (k13.trans k4).trans k5, d5.mono (by omega), co, cne, hc, (net3.tup (d3.tupS k4)).tup (d4.tupS k5)⟩⟩
  obtain ⟨vs, vc, c, rfl, k5, d5, co, cne, hc, net5⟩ := hM
  clear net3 net d3 d2 d1 k13 k12 k3 k2 k1 hp
  walk_at "nf"
  have fc5 : FC H' n c (.ref p) vc := ⟨net5, no, hc, co⟩
  obtain ⟨pc, oc, cxs, rfl, ec, ed, hcx⟩ := id hc
  refine ⟨D, pc, 400, cxs, rfl, d5, by omega, fun z => cne (by
      have := Al.len hcx
      rw [z] at this
      exact List.length_eq_zero_iff.mp this.symm), by rw [Al.len hcx]; exact Nat.le_trans co.len (by decide), .inr fun H' k => .inl (.inr ⟨oc, d5.tupS k _ _ ec rfl⟩), fun v H6 hv k6 d6 => ?_⟩
  obtain ⟨i, hi⟩ := List.mem_iff_getElem?.mp hv
  obtain ⟨pr, hpr, hpa⟩ := Al.get hcx hi
  have t6 := d5.tupS k6
  have k56 := k5.trans k6
  refine r_p0 (a := pr.1) (b := pr.2) (hpa.tup t6) fun w2 hw2 => ?_
  rw [at_str.mp hw2]
  have hx : pr.1 ∈ c.map (·.1) := List.mem_map.mpr ⟨pr, List.mem_of_getElem? hpr, rfl⟩
  generalize pr.1 = x at hx
  have fc6 := fc5.tup t6
  clear hv hi hpr hpa hw2 net5
  refine ⟨fun σ H' => ∃ (F L : Addr), σ = [some (.ref D), some (.ref p), some vs, some (.ref pc), some (.str x), some (.ref F), some (.ref L), none] ∧ RI H H' C D F L P0 500 0 n c (.ref p) (.ref pc) (List.replicate n.1.length x) [(List.replicate n.1.length x, [])], ?_, fun σ' H' hM => ?_⟩
  · refine fun F dx hF hdx hne => ?_
    have s7 : Same H6 (upd (upd H6 dx (.own F)) F (.ins C dx [])) := (Same.new hdx).trans (.new (by rw [upd_ne hne.symm]; exact hF))
    refine ⟨F, dx, n, c, x, .ref p, .ref pc, rfl, upd_same, fc6.same s7, hx, fun H7 k7 f7 => ⟨rfl, by decide, fun L hL => ?_⟩⟩
    have s67 : Same H6 H7 := fun a o e => k7 a o (fun z => ne_of_none e hF (List.mem_singleton.mp z)) (s7 _ _ e)
    have s8 : Same H7 (upd H7 L (.lst [])) := .new hL
    have s68 := s67.trans s8
    have kk : Keep [D] H (upd H7 L (.lst [])) := k56.trans (.same s68)
    have nn : ∀ a, a ≠ D → H6 a = none → NN H a := fun a ha e => .back (.of k56) (by simpa using ha) e
    have hFD : F ≠ D := fun z => by
      obtain ⟨_, _, _, e, _⟩ := d6
      rw [z, e] at hF
      cases hF
    have hLD : D ≠ L := fun z => by
      obtain ⟨_, _, _, e, _⟩ := d6.keep (s67 D)
      rw [← z, e] at hL
      cases hL
    refine ⟨F, L, rfl, .of kk, nn F hFD hF, ?_, (d6.keep (s68 D)).mono (by omega), f7.same s8, fc6.same s68, ⟨rfl, fun q hq => ?_, fun q hq => ?_, by simp⟩, ⟨[], upd_same, .nil⟩, tbD kk, hLD⟩
    · exact .back (.of (k56.trans (.same s67))) (by simpa using hLD.symm) hL
    · rw [List.mem_singleton.mp hq]
      rfl
    · rw [List.mem_singleton.mp hq]
      exact Nat.zero_le _
  obtain ⟨F, L, rfl, r8⟩ := hM
  have so := stok_start (n := n) hx
  clear fc6 k56 t6 d6 k6 fc5 hcx ec hc d5 k5 tbD ed
  refine ⟨25, rfl, by decide, by decide, L2.for_range (fun t σ' H' => ∃ (F : Addr) (ms : Mom) (u : Option V), σ' = [some (.ref D), some (.ref p), some vs, some (.ref pc), some (.str x), some (.ref F), some (.ref L), u] ∧ RI H H' C D F L P0 (500 + 4 * t) t n c (.ref p) (.ref pc) (List.replicate n.1.length x) ms) ⟨F, _, _, rfl, r8⟩ (fun t σ' H' ht ⟨F, ms, u, eσ, r9⟩ => ?_) fun σ' H' ⟨F, ms, u, eσ, r9⟩ => ?_⟩
  · subst eσ
    walk_at "nf"
    refine ⟨D, F, L, 500 + 4 * t, t, n, c, .ref p, .ref pc, _, ms, rfl, r9.deck, by omega, r9.fl, r9.fc, cne, so, by omega, r9.hist, r9.past, r9.hDL, r9.tab, fun ms' H1 hh kk d1 f1 fc1 p1 t1 => ⟨true, rfl, iteF' rfl ?_⟩⟩
    have ra := r9.called hh kk d1 f1 fc1 p1 t1
    clear hh kk d1 f1 fc1 p1 t1
    refine ⟨F, n, c, .ref p, .ref pc, x, ms', t + 1, rfl, ra.fl, ra.fc, hx, ra.hist, by omega, fun H2 s2 => ⟨true, rfl, iteF' rfl ?_⟩⟩
    have rb := ra.same s2
    refine ⟨D, 500 + 4 * t + 3, 4, rfl, rb.deck, by omega, by decide, by decide, fun r H3 r0 r1 k3 d3 => ⟨rfl, _, rfl, ?_⟩⟩
    have rc := rb.drawn k3 d3
    obtain ⟨qm, rest, rfl⟩ := rc.hist.ne
    by_cases hr0 : r = 0
    · obtain ⟨dx, mv, eF, _⟩ := id rc.fl
      exact iteT' (by rw [hr0]; rfl) ⟨F, dx, _, rfl, eF, rfl, F, n, c, .ref p, .ref pc, qm, rest, rfl, rc.fl, rc.fc, (rc.hist.run qm List.mem_cons_self).ok so, fun F2 H4 hF2 s4 f4 => ⟨F2, _, _, rfl, rc.copied hF2 s4 f4⟩⟩
    · refine iteF' (decide_eq_false fun z => hr0 (V.int.inj z)) ?_
      exact ⟨F, _, _, rfl, rc⟩
  · subst eσ
    refine ⟨fun m σ H' => ∃ (ms : Mom) (k : Nat), σ = [some (.ref D), some (.ref p), some vs, some (.ref pc), some (.str x), some (.ref F), some (.ref L), u] ∧ RI H H' C D F L P0 600 k n c (.ref p) (.ref pc) (List.replicate n.1.length x) ms ∧ m = ms.length, ⟨_, ms, 25, rfl, r9, rfl⟩, ?_⟩
    rintro m σ4 H4 ⟨ms, k, rfl, rd, rfl⟩
    walk_at "nf"
    obtain ⟨qm, rest, rfl⟩ := rd.hist.ne
    refine ⟨by decide, fun e he => ?_⟩
    have s5 : Same H4 (upd H4 e (.lst [])) := .new he
    have h5 : upd H4 e (.lst []) e = some (.lst []) := upd_same
    generalize upd H4 e (.lst []) = H5 at s5 h5
    have re := rd.same s5
    obtain ⟨pv, hL, hpv⟩ := id re.past
    have hpv : Al H5 rest.reverse pv := hpv
    refine r_neLE hL hpv h5 (fun a ha => mom_ok re.fc so re.hist (List.mem_cons_of_mem _ (List.mem_reverse.mp ha))) ⟨_, rfl, ?_⟩
    cases hre : rest with
    | nil =>
      subst hre
      refine iteF' (by simp) ?_
      intro Fr dr hFr hdr hne
      have s6 : Same H5 (upd (upd H5 dr (.own Fr)) Fr (.ins C dr [])) := (Same.new hdr).trans (.new (by rw [upd_ne hne.symm]; exact hFr))
      refine ⟨Fr, dr, n, c, x, .ref p, .ref pc, rfl, upd_same, re.fc.same s6, hx, fun H6 k6 f6 => ⟨rfl, ?_⟩⟩
      have s56 : Same H5 H6 := fun a o e => k6 a o (fun z => ne_of_none e hFr (List.mem_singleton.mp z)) (s6 _ _ e)
      have rf := re.same s56
      have hq : qm = (List.replicate n.1.length x, []) := Option.some.inj rf.hist.last
      subst hq
      obtain ⟨dx, mv, eF, _⟩ := id rf.fl
      obtain ⟨dr6, mr6, eFr, _⟩ := id f6
      refine ⟨⟨F, Fr, dx, dr6, _, _, rfl, rfl, eF, eFr, n, c, .ref p, .ref pc, _, [], [], rf.fl, f6, rf.fc, so, fun p hp => nomatch hp⟩, fun H7 s7 => ⟨true, rfl, iteT' rfl ?_⟩⟩
      have s7 : Same H6 H7 := s7
      have rg := rf.same s7
      refine ⟨F, dx, _, rfl, s7 _ _ eF, F, .ref p, .ref pc, _, [], rfl, rg.fl, fun u2 hu2 => ⟨by decide, fun p2 hp2 => ?_⟩⟩
      have s8 := Same.new (o := .tup [.str x]) hp2
      have rh := rg.same s8
      have hn1 : 1 ≤ n.1.length := by
        cases e : n.1 with
        | nil => exact absurd e no.ne
        | cons a b => simp
      refine r_p0 rh.fc.net.1 fun w3 hw3 => r_lenT' hw3 (r_rep (r := x) (.new hp2 (al_str.mpr rfl)) hn1 (Nat.le_trans no.len (by decide)) fun u3 H8 s9 hu3 => ?_)
      have ok3 : Enc.ok (List.replicate n.1.length x) := (mom_ok rh.fc so rh.hist List.mem_cons_self).1
      refine r_eq ((hu2.same s8).same s9) hu3 ok3 ok3 ?_
      rw [decide_eq_true rfl]
      exact q H8 (rh.same s9).keep (rh.same s9).tab
    | cons q2 rest2 =>
      subst hre
      refine iteT' (by simp) ⟨_, fun _ _ h => h, ?_⟩
      obtain ⟨dx, mv, eF, _⟩ := id re.fl
      refine ⟨F, dx, _, rfl, eF, rfl, F, .ref p, .ref pc, qm, q2, rest2, rfl, re.fl, fun H6 k6 f6 => ?_⟩
      obtain ⟨dx6, mv6, eF6, _⟩ := id f6
      refine ⟨F, dx6, _, rfl, eF6, F, .ref p, .ref pc, q2, rest2, rfl, f6, fun u1 hu1 => ⟨F, dx6, _, rfl, eF6, rfl, F, .ref p, .ref pc, q2, rest2, rfl, f6, fun u2 hu2 => ⟨by decide, fun p2 hp2 => ?_⟩⟩⟩
      have s7 : Same H6 (upd H6 p2 (.tup [u1, u2])) := .new hp2
      have a7 : At (upd H6 p2 (.tup [u1, u2])) q2 (.ref p2) := at_new2 hp2 hu1 hu2
      generalize upd H6 p2 (.tup [u1, u2]) = H7 at s7 a7
      obtain ⟨ws, y, l7, hy, t7, rg⟩ := re.undone k6 f6 s7
      refine ⟨.inl ⟨rfl, _, .of l7⟩, L, ws ++ [y], y, rfl, rfl, l7, by simp, ?_⟩
      rw [List.dropLast_concat]
      have q2ok : Enc.ok q2 := mom_ok rg.fc so rg.hist List.mem_cons_self
      refine r_ne (a7.tup t7) (hy.tup t7) q2ok q2ok ⟨_, rfl, iteF' (by rw [decide_eq_true rfl]; rfl) ?_⟩
      exact ⟨_, Nat.lt_succ_self _, _, _, rfl, rg, rfl⟩

end
end G3
end

/-! ## G3Law -/
section
set_option Elab.async false
set_option linter.all false
set_option maxRecDepth 100000
set_option maxHeartbeats 4000000
local macro_rules | `(tactic| walk_at "nf") => `(tactic| simp only [C8.tCut, G3.tWith, G3.dWith, G3.tLam0, G3.tLam1, G3.TTc, G3.TTr, L2.tRet, L2.tRetN, L2.tAndV, L2.tOrV, L2.tNotV, L2.tCB, L2.tCons, L2.tNil, L2.tVar, L2.tC, L2.tDIn, L2.tDNotIn, L2.tDGet, L2.tOp, L2.tUn, L2.tTest, L2.tB, L2.tIf, L2.tIfS, L2.tAnd, L2.tOr, L2.tNot, L2.tSeq, L2.tAsg, L2.gName, L2.tDrop, L2.tNext, L2.tCall, L2.tTup, L2.tLst, L2.tBM, L2.tBM0, L2.tSl, L2.tPart, L2.tNoPart, L2.sDPut, L2.tFld, L2.sFld, L2.tMeth, L2.tYes, L2.gTup, L2.gCons, L2.gNil, L2.tIsN, L2.tNotN, L2.tPar, L2.tPar3, L2.tDNewK, L2.tDisp, L2.tPairs, L2.tDGet1, StX.tStar, L2.gSub, L2.tProp, L2.tVeI, L2.tOst, L2.tMkO, L2.tDNewT, L2.tLock, G3.tFrzS, L2.tMake, L2.tDNewT, G3.lcL_fld, G3.lcT_fld, G3.forL_fld, G3.tListVals, G3.lc2T_op, G3.lc2L_call, L2.tGThen, L2.tG0, L2.tPlain, L2.GEnds.at, L2.tGYield, L2.tCallG, L2.tListG, G3.tTupIx, G3.dcT_op, G3.tFrz, G3.dcI_frz, G3.lcI_frz, G3.lcY_frz, G3.lcI_call, G3.lcT_lit, G3.forT_lit, G3.lcL_call, G3.lcL_op, G3.lcL_dget, G3.lcT_call, G3.lcT_op, G3.lcT_dget, G3.forL_call, G3.forL_op, G3.forL_dget, G3.forT_call, G3.forT_op, G3.forT_dget, G3.ex_l1, G3.ex_l2, G3.ex_l3,
  G3.start_eq, G3.cxOf_K, G3.wipe_nil, G3.wipe_cons, List.map_cons, List.map_nil, List.nil_append, List.cons_append, List.append_nil, List.getElem?_cons_zero, List.getElem?_cons_succ, List.set_cons_zero, List.set_cons_succ, List.set_nil, List.length_cons, List.length_nil, List.replicate, Option.some.injEq, G3.ex_eq, Nat.reduceAdd, Nat.reduceSub, Nat.zero_add, List.replicate_succ, List.replicate_zero, true_and, if_true, if_false, Bool.false_eq_true, Nat.add_zero, Int.add_zero])
namespace G3
open PySem PySem.Spec PyProof.Rows L2

/-! ### the law -/
abbrev sLaw : Stmt := top 77
theorem scLaw : FnScope ["_law_script", "_law_k"] ["_law_script"] (defScope sLaw) := ⟨rfl, rfl, rfl, by decide +kernel, rfl, by decide +kernel, by decide +kernel⟩
theorem seqA {K : PySem.W.Frag} {H H' : Hp} {a : Addr} {xs : List V} (h : SqL K H a xs) (k : ∀ o, H a = some o → (∀ z, o ≠ .tbl z) → H' a = some o) : SqL K H' a xs := by
  rcases h with (h | ⟨o, h⟩) | h
  · exact .inl (.inl (k _ h (fun _ z => nomatch z)))
  · exact .inl (.inr ⟨o, k _ h (fun _ z => nomatch z)⟩)
  · exact .inr h
theorem all_rep : ∀ n : Nat, (List.replicate n true).all id = true
  | 0 => rfl
  | n + 1 => by rw [List.replicate_succ, List.all_cons, all_rep n]; rfl
def spLaw (K : PySem.W.Frag) (P0 : Addr) : Sp := fun vs H Q _ => ∃ (a : Addr) (ns : List Int), vs = [.ref a] ∧ SqL K H a (ns.map V.int) ∧ ns.length ≤ 63 ∧ TabS2 H P0 qL1 qL2 ∧ ∀ H', Q (.bl true) H'
section
variable {P : Program} {w : World} {K : PySem.W.Frag} {mg : Str → Option Value} {base : Heap} {P0 f : Addr} {fd : FuncData}
theorem ok_law (T : Bt mg) (GDk : Df P w K mg base CX0 1 "_law_deck" ["_law_script", "_law_k"] (spDeck K)) (GR : Df P w K mg base CX0 123 "_law_right" ["_law_deck_here"] (spRight P0)) (F : FunD K "law" "law" (defArgs sLaw) (defBody sLaw) (defScope sLaw) [] [] f fd) :
    FnOk P w K mg base CX0 124 f fd ["_law_script"] (spLaw K P0) := by
  refine F.ok scLaw (fun vs H Q E h => ?_) (fun cdv A outer s H vs Q E hr h => ?_)
  · obtain ⟨a, ns, rfl, _⟩ := h
    rfl
  obtain ⟨a, ns, rfl, ha, hl, hT2, q⟩ := h
  refine ⟨_, PSs.nox (pss_one (ps_ret (eAll K T rfl (pe_lc (own := [("_law_k", 1)]) (g := gName 1) rfl scLaw.nd (pi_range1 rfl T.range (pa_cons (pe_callB (call_max2 rfl) rfl T.max boot_max (pa_cons pe_int (pa_cons (pe_callB (call_min2 rfl) rfl T.min boot_min (pa_cons pe_int (pa_cons (eLen K T (pv 0)) pa_nil)) (by decide) (by decide)) pa_nil)) (by decide) (by decide)) pa_nil))
      (blkOk_by (by rfl)) (fun _ _ _ _ _ => pg_name (i := 1) scLaw.nd rfl (Or.inl rfl)) (fun _ _ _ _ _ => pts_nil)
      (fun _ _ _ _ _ => pe_df GR hr pass0 (pa_cons (pe_df GDk hr pass0 (pa_cons (pv 0) (pa_cons (pv 1) pa_nil))) pa_nil)))))), ?_⟩
  walk_at "nf"
  obtain ⟨N, hN, hN2⟩ : ∃ N : Nat, (if (if (ns.length : Int) < 2 then (ns.length : Int) else 2) > 1 then (if (ns.length : Int) < 2 then (ns.length : Int) else 2) else 1) = (N : Int) ∧ N ≤ 2 := by
    by_cases h1 : (ns.length : Int) < 2
    · rw [if_pos h1]
      by_cases h2 : (ns.length : Int) > 1
      · rw [if_pos h2]
        exact ⟨ns.length, rfl, by omega⟩
      · rw [if_neg h2]
        exact ⟨1, rfl, by omega⟩
    · rw [if_neg h1]
      exact ⟨2, rfl, by omega⟩
  have hgo : ∀ R : List V → Hp → Prop, R [.int N] H → tCons
        (tCB (fun xs H Q => ∃ i j, xs = [V.int i, V.int j] ∧ Q (V.int (if j > i then j else i)) H)
          (tCons (tC (V.int 1))
            (tCons
              (tCB (fun xs H Q => ∃ i j, xs = [V.int i, V.int j] ∧ Q (V.int (if j < i then j else i)) H)
                (tCons (tC (V.int 2)) (tCons (fun σ H Q => ∃ v, σ[0]? = some (some v) ∧ rLenE K [v] H Q) tNil)))
              tNil)))
        tNil [some (.ref a), none] H R := fun R hR => by
    refine ⟨_, rfl, r_lenL ha ⟨2, _, rfl, 1, _, rfl, ?_⟩⟩
    rw [List.length_map, hN]
    exact hR
  unfold L2.tLc L2.iRng1
  refine hgo _ ?_
  refine ⟨N, rfl, by omega, by omega, fun DL hDL => ?_⟩
  refine L2.lc_range (lo := 0) (n := (N : Int).toNat) (fun i H' => H' DL = some (.lst (List.replicate i (.bl true))) ∧ (∀ o, H a = some o → (∀ z, o ≠ .tbl z) → H' a = some o) ∧ TabS2 H' P0 qL1 qL2) ⟨upd_same, fun o e _ => Same.new hDL _ _ e, hT2.same (.new hDL)⟩ (fun i H1 hi ⟨h1, h2, h3⟩ => ?_) fun H1 ⟨h1, h2, h3⟩ => ?_
  · walk_at "nf"
    refine ⟨a, ns, i, by rw [show (0 : Int) + (i : Int) = (i : Int) by omega], seqA ha h2, hl, by omega, fun p H2 hp s2 d2 => ⟨p, rfl, d2, h3.same s2, fun H3 k3 t3 => ?_⟩⟩
    have hDp : DL ≠ p := ne_of_none h1 hp
    have l3 : H3 DL = some (.lst (List.replicate i (.bl true))) := k3 _ _ (by simpa using hDp) (s2 _ _ h1) (fun _ z => nomatch z)
    refine ⟨_, l3, by rw [List.length_replicate]; exact Nat.lt_of_le_of_lt (show i ≤ 2 by omega) (by decide), ?_, fun o e n => ?_, t3.keep fun b o e n1 _ => ?_⟩
    · rw [upd_same, ← List.replicate_succ', List.replicate_succ]
    · have e1 := h2 o e n
      rw [upd_ne (ne_of_none e hDL)]
      exact k3 _ _ (by simpa using ne_of_none e1 hp) (s2 _ _ e1) n
    · rw [upd_ne (fun z => by
        rw [z, l3] at e
        exact n1 _ (Option.some.inj e).symm)]
      exact e
  · refine ⟨DL, List.replicate (N : Int).toNat true, rfl, .of (by rw [List.map_replicate]; exact h1), ?_⟩
    rw [all_rep]
    exact q H1

end
end G3
end

/-! ## HC -/
section
set_option Elab.async false
set_option linter.all false
set_option maxRecDepth 100000
set_option maxHeartbeats 4000000
namespace G3
open PySem PySem.Spec PyProof.Rows L2
theorem ueB_ok {K : PySem.W.Frag} {U : Addr} (h : ueB K U = true) : UeC K U := by
  obtain ⟨h1, h⟩ := He.ba h
  obtain ⟨h2, h⟩ := He.ba h
  obtain ⟨h3, h4⟩ := He.ba h
  refine ⟨He.eqO_ok h1, of_decide_eq_true h2, h3, ?_⟩
  cases e : PySem.W.findCls K (.ref U) (.type "type") "__init__" with
  | none =>
    rw [e] at h4
    cases h4
  | some r =>
    rw [e] at h4
    cases r with
    | val v => rw [of_decide_eq_true h4]
    | get g a o tp => cases h4
theorem exB_ok {K : PySem.W.Frag} (h : exB K = true) : PropOf K (He.ga K "Fleet") "state" (He.ma K (He.ga K "Fleet") "state") (pgA K "Fleet" "state") ∧ PropOf K (He.ga K "Fleet") "made" (He.ma K (He.ga K "Fleet") "made") (pgA K "Fleet" "made") ∧ OexC K (He.ga K "Unreachable") ∧ OexC K (He.ga K "Blocked") ∧ OexC K (He.ga K "Mixed") ∧ UeC K (He.ga K "UpgradeError") ∧
    He.ga K "upgrade_upgrades" = He.ga K "upgrade" ∧ PySem.W.kitOne K (.ref (He.ga K "Fleet")) (.ref (He.ga K "Fleet")) = some true ∧ PySem.W.findIn K (.ref (He.ga K "Fleet")) "__class__" = some (some (.builtin "object.__class__")) ∧ PySem.W.specialIn K (.builtin "object.__class__") "__get__" = some (some (.builtin "getset_descriptor.__get__")) ∧
    PySem.W.takesIn K (.builtin "object.__class__") = some true ∧ PySem.W.mroIn K (He.ga K "Fleet") (.type "object") = some true := by
  obtain ⟨h0, h⟩ := He.ba h
  obtain ⟨h1, h⟩ := He.ba h
  obtain ⟨h2, h⟩ := He.ba h
  obtain ⟨h3, h⟩ := He.ba h
  obtain ⟨h4, h⟩ := He.ba h
  obtain ⟨h5, h⟩ := He.ba h
  obtain ⟨h6, h⟩ := He.ba h
  obtain ⟨h7, h⟩ := He.ba h
  obtain ⟨h8, h⟩ := He.ba h
  obtain ⟨h9, h⟩ := He.ba h
  obtain ⟨h10, h11⟩ := He.ba h
  exact ⟨propB_ok h0, propB_ok h1, oexA_ok h2, oexA_ok h3, oexA_ok h4, ueB_ok h5, of_decide_eq_true h6, of_decide_eq_true h7, He.eqO_ok h8, He.eqO_ok h9, of_decide_eq_true h10, of_decide_eq_true h11⟩
section
variable {P : Program} {w : World} {K : PySem.W.Frag} {mg : Str → Option Value} {base : Heap}
theorem widen_all {C : Addr} (T : PCls K C) (F : StM K C "widen" "Pairing.widen" sWiden) : ∀ d : Nat, Mf P w K mg base CX0 (d + 1) C "widen" ["self", "node", "seen"] (spWiden C d)
  | 0 => ok_widen0 F
  | d + 1 => ok_widenS T F d (d + 1) (widen_all T F d)
theorem D_alias {CX : CXT} {k : Nat} {x y : Str} {ps : List Str} {sp : Sp} {a : Addr} (D : Df P w K mg base CX k x ps sp) (hx : mg x = some (.ref a)) (hy : mg y = some (.ref a)) : Df P w K mg base CX k y ps sp := by
  obtain ⟨f, fd, hm, r⟩ := D
  rw [hx] at hm
  cases hm
  exact ⟨a, fd, hy, r⟩
theorem law_at {h : Heap} {fa : Addr} {l : PySem.W.OpenLaw} (X : K.In h) (G : h.Ns mainGlobals mg) (hfa : mg ("law" : Str) = some (.ref fa)) (c : SaysY faL fnL tfL exB h K) : LamX.LawAtS l w K CX0 124 63 "_law_script" mg fa h := by
  obtain ⟨fdL, FL⟩ := c.a.def_ 49 (d := d_law) rfl
  have FL : FunD K "law" "law" (defArgs sLaw) (defBody sLaw) (defScope sLaw) [] [] (He.ga K "law") fdL := FL
  have e := hfa.symm.trans (He.glo_ok X G (c.a.fact 65 (f := .glo "law") rfl))
  cases e
  have b := FunD.bindsA (ps := ["_law_script"]) FL fun _ _ _ _ _ _ us hl => match us, hl with | [_], _ => rfl
  obtain ⟨fdC, FC0⟩ := c.a.def_ 1 (d := d__law_called) rfl
  have FC0 : FunD K "_law_called" "_law_called" (defArgs sCalled) (defBody sCalled) (defScope sCalled) [] [] (He.ga K "_law_called") fdC := FC0
  obtain ⟨c0, hc0, hc1⟩ : ∃ c0, fdC.code = .ref c0 ∧ He.codeOf K ("_law_called", none) = c0 := by
    obtain ⟨oc, od, dV, kV, doc, pm, an, cdv, ct, osl, rfl, lk, hcd, _, _⟩ := FC0.ex
    obtain ⟨c0, rfl⟩ := He.codeIn_ref hcd
    exact ⟨c0, rfl, He.codeOf_eq (p := ("_law_called", none)) lk rfl⟩
  have hin : (("_law_called", none) : He.Defn) ∈ tfL := List.mem_singleton.mpr rfl
  refine ⟨fdL, [He.cT K ("_law_called", none)], spLaw K (He.cT K ("_law_called", none)).2, fun p hp => ?_, fun p hp => ?_, fun p hp => ?_, fun s v => b s [v] rfl, fun H a ns hl _ hT hS => ⟨a, ns, rfl, hS, hl, ⟨#[], hT _ (List.mem_singleton.mpr rfl), ?_, ?_⟩, fun _ => rfl⟩, fun base hb hG hT => ?_⟩
  · rw [List.mem_singleton.mp hp]
    exact c.empty _ hin
  · rw [List.mem_singleton.mp hp]
    exact c.out _ hin
  · rw [List.mem_singleton.mp hp]
    exact PySem.W.codeHd_of_K X (c.hd _ hin)
  · exact True.intro
  · intro pos cv z
    cases z
  generalize l.prog = P
  have TB : LamX.TabB base mg c0 (He.cT K ("_law_called", none)).2 := by
    rw [← hc1]
    exact hT (He.cT K ("_law_called", none)) (List.mem_singleton.mpr rfl)
  have ST : St0T K mg base "_law_called" sCalled (He.cT K ("_law_called", none)).2 := ⟨_, fdC, c0, He.glo_ok X G (c.a.fact 17 (f := .glo "_law_called") rfl), FC0, hc0, TB⟩
  have g_upgrade : mg "upgrade" = some (.ref (He.ga K "upgrade")) := He.glo_ok X G (c.a.fact 63 (f := .glo "upgrade") rfl)
  have bt : Bt mg := ⟨He.free_ok X G (c.a.fact 0 (f := .free "isinstance") rfl), He.free_ok X G (c.a.fact 1 (f := .free "str") rfl), He.free_ok X G (c.a.fact 2 (f := .free "dict") rfl), He.free_ok X G (c.a.fact 3 (f := .free "tuple") rfl), He.free_ok X G (c.a.fact 4 (f := .free "list") rfl), He.free_ok X G (c.a.fact 5 (f := .free "sorted") rfl), He.free_ok X G (c.a.fact 6 (f := .free "len") rfl), He.free_ok X G (c.a.fact 7 (f := .free "range") rfl), He.free_ok X G (c.a.fact 8 (f := .free "enumerate") rfl), He.free_ok X G (c.a.fact 9 (f := .free "zip") rfl), He.free_ok X G (c.a.fact 10 (f := .free "any") rfl), He.free_ok X G (c.a.fact 11 (f := .free "all") rfl), He.free_ok X G (c.a.fact 12 (f := .free "min") rfl), He.free_ok X G (c.a.fact 13 (f := .free "max") rfl), He.free_ok X G (c.a.fact 14 (f := .free "abs") rfl), He.free_ok X G (c.a.fact 15 (f := .free "int") rfl)⟩
  have g_Fleet : mg "Fleet" = some (.ref (He.ga K "Fleet")) := He.glo_ok X G (c.a.fact 66 (f := .glo "Fleet") rfl)
  have g_Pairing : mg "Pairing" = some (.ref (He.ga K "Pairing")) := He.glo_ok X G (c.a.fact 67 (f := .glo "Pairing") rfl)
  have g_Trial : mg "Trial" = some (.ref (He.ga K "Trial")) := He.glo_ok X G (c.a.fact 68 (f := .glo "Trial") rfl)
  have g_Unreachable : mg "Unreachable" = some (.ref (He.ga K "Unreachable")) := He.glo_ok X G (c.a.fact 69 (f := .glo "Unreachable") rfl)
  have g_Blocked : mg "Blocked" = some (.ref (He.ga K "Blocked")) := He.glo_ok X G (c.a.fact 70 (f := .glo "Blocked") rfl)
  have g_Mixed : mg "Mixed" = some (.ref (He.ga K "Mixed")) := He.glo_ok X G (c.a.fact 71 (f := .glo "Mixed") rfl)
  have g_UpgradeError : mg "UpgradeError" = some (.ref (He.ga K "UpgradeError")) := He.glo_ok X G (c.a.fact 72 (f := .glo "UpgradeError") rfl)
  have S__law_any : St0 K mg "_law_any" sAny := let ⟨fd, F⟩ := c.a.def_ 0 (d := d__law_any) rfl; ⟨_, fd, He.glo_ok X G (c.a.fact 16 (f := .glo "_law_any") rfl), F⟩
  have S__law_caught : St0 K mg "_law_caught" sCaught := let ⟨fd, F⟩ := c.a.def_ 2 (d := d__law_caught) rfl; ⟨_, fd, He.glo_ok X G (c.a.fact 18 (f := .glo "_law_caught") rfl), F⟩
  have S__law_chain : St0 K mg "_law_chain" sChain := let ⟨fd, F⟩ := c.a.def_ 3 (d := d__law_chain) rfl; ⟨_, fd, He.glo_ok X G (c.a.fact 19 (f := .glo "_law_chain") rfl), F⟩
  have S__law_deck : St0 K mg "_law_deck" sDeck := let ⟨fd, F⟩ := c.a.def_ 4 (d := d__law_deck) rfl; ⟨_, fd, He.glo_ok X G (c.a.fact 20 (f := .glo "_law_deck") rfl), F⟩
  have S__law_draw : St0 K mg "_law_draw" sDraw := let ⟨fd, F⟩ := c.a.def_ 5 (d := d__law_draw) rfl; ⟨_, fd, He.glo_ok X G (c.a.fact 21 (f := .glo "_law_draw") rfl), F⟩
  have S__law_moment_right : St0 K mg "_law_moment_right" sMoment := let ⟨fd, F⟩ := c.a.def_ 6 (d := d__law_moment_right) rfl; ⟨_, fd, He.glo_ok X G (c.a.fact 22 (f := .glo "_law_moment_right") rfl), F⟩
  have S__law_names : St0 K mg "_law_names" sNames := let ⟨fd, F⟩ := c.a.def_ 7 (d := d__law_names) rfl; ⟨_, fd, He.glo_ok X G (c.a.fact 23 (f := .glo "_law_names") rfl), F⟩
  have S__law_network : St0 K mg "_law_network" sNetwork := let ⟨fd, F⟩ := c.a.def_ 8 (d := d__law_network) rfl; ⟨_, fd, He.glo_ok X G (c.a.fact 24 (f := .glo "_law_network") rfl), F⟩
  have S__law_right : St0 K mg "_law_right" sRight := let ⟨fd, F⟩ := c.a.def_ 9 (d := d__law_right) rfl; ⟨_, fd, He.glo_ok X G (c.a.fact 25 (f := .glo "_law_right") rfl), F⟩
  have S__law_turned : St0 K mg "_law_turned" sTurned := let ⟨fd, F⟩ := c.a.def_ 10 (d := d__law_turned) rfl; ⟨_, fd, He.glo_ok X G (c.a.fact 26 (f := .glo "_law_turned") rfl), F⟩
  have S_adjacent_to : St0 K mg "adjacent_to" sAdjacent := let ⟨fd, F⟩ := c.a.def_ 11 (d := d_adjacent_to) rfl; ⟨_, fd, He.glo_ok X G (c.a.fact 27 (f := .glo "adjacent_to") rfl), F⟩
  have S_all_at : St0 K mg "all_at" sAllAt := let ⟨fd, F⟩ := c.a.def_ 12 (d := d_all_at) rfl; ⟨_, fd, He.glo_ok X G (c.a.fact 28 (f := .glo "all_at") rfl), F⟩
  have S_along : St0 K mg "along" sAlong := let ⟨fd, F⟩ := c.a.def_ 13 (d := d_along) rfl; ⟨_, fd, He.glo_ok X G (c.a.fact 29 (f := .glo "along") rfl), F⟩
  have S_blockers : St0 K mg "blockers" sBlockers := let ⟨fd, F⟩ := c.a.def_ 14 (d := d_blockers) rfl; ⟨_, fd, He.glo_ok X G (c.a.fact 30 (f := .glo "blockers") rfl), F⟩
  have S_changed : St0 K mg "changed" sChanged := let ⟨fd, F⟩ := c.a.def_ 15 (d := d_changed) rfl; ⟨_, fd, He.glo_ok X G (c.a.fact 31 (f := .glo "changed") rfl), F⟩
  have S_check_release : St0 K mg "check_release" sCheckRelease := let ⟨fd, F⟩ := c.a.def_ 16 (d := d_check_release) rfl; ⟨_, fd, He.glo_ok X G (c.a.fact 32 (f := .glo "check_release") rfl), F⟩
  have S_check_schedule : St0 K mg "check_schedule" sCheckSchedule := let ⟨fd, F⟩ := c.a.def_ 17 (d := d_check_schedule) rfl; ⟨_, fd, He.glo_ok X G (c.a.fact 33 (f := .glo "check_schedule") rfl), F⟩
  have S_check_service : St0 K mg "check_service" sCheckService := let ⟨fd, F⟩ := c.a.def_ 18 (d := d_check_service) rfl; ⟨_, fd, He.glo_ok X G (c.a.fact 34 (f := .glo "check_service") rfl), F⟩
  have S_check_two_sided : St0 K mg "check_two_sided" sCheckTwoSided := let ⟨fd, F⟩ := c.a.def_ 19 (d := d_check_two_sided) rfl; ⟨_, fd, He.glo_ok X G (c.a.fact 35 (f := .glo "check_two_sided") rfl), F⟩
  have S_checked_distance : St0 K mg "checked_distance" sChecked := let ⟨fd, F⟩ := c.a.def_ 20 (d := d_checked_distance) rfl; ⟨_, fd, He.glo_ok X G (c.a.fact 36 (f := .glo "checked_distance") rfl), F⟩
  have S_conflicts : St0 K mg "conflicts" sConflicts := let ⟨fd, F⟩ := c.a.def_ 21 (d := d_conflicts) rfl; ⟨_, fd, He.glo_ok X G (c.a.fact 37 (f := .glo "conflicts") rfl), F⟩
  have S_cover : St0 K mg "cover" sCover := let ⟨fd, F⟩ := c.a.def_ 22 (d := d_cover) rfl; ⟨_, fd, He.glo_ok X G (c.a.fact 38 (f := .glo "cover") rfl), F⟩
  have S_distance : St0 K mg "distance" sDistance := let ⟨fd, F⟩ := c.a.def_ 23 (d := d_distance) rfl; ⟨_, fd, He.glo_ok X G (c.a.fact 39 (f := .glo "distance") rfl), F⟩
  have S_greatest_apart : St0 K mg "greatest_apart" sGreatest := let ⟨fd, F⟩ := c.a.def_ 24 (d := d_greatest_apart) rfl; ⟨_, fd, He.glo_ok X G (c.a.fact 40 (f := .glo "greatest_apart") rfl), F⟩
  have S_halves : St0 K mg "halves" sHalves := let ⟨fd, F⟩ := c.a.def_ 25 (d := d_halves) rfl; ⟨_, fd, He.glo_ok X G (c.a.fact 41 (f := .glo "halves") rfl), F⟩
  have S_has_release : St0 K mg "has_release" sHasRelease := let ⟨fd, F⟩ := c.a.def_ 26 (d := d_has_release) rfl; ⟨_, fd, He.glo_ok X G (c.a.fact 42 (f := .glo "has_release") rfl), F⟩
  have S_has_service : St0 K mg "has_service" sHasService := let ⟨fd, F⟩ := c.a.def_ 27 (d := d_has_service) rfl; ⟨_, fd, He.glo_ok X G (c.a.fact 43 (f := .glo "has_service") rfl), F⟩
  have S_in_the_way : St0 K mg "in_the_way" sInTheWay := let ⟨fd, F⟩ := c.a.def_ 28 (d := d_in_the_way) rfl; ⟨_, fd, He.glo_ok X G (c.a.fact 44 (f := .glo "in_the_way") rfl), F⟩
  have S_is_replacement : St0 K mg "is_replacement" sIsReplacement := let ⟨fd, F⟩ := c.a.def_ 29 (d := d_is_replacement) rfl; ⟨_, fd, He.glo_ok X G (c.a.fact 45 (f := .glo "is_replacement") rfl), F⟩
  have S_is_schedule : St0 K mg "is_schedule" sIsSchedule := let ⟨fd, F⟩ := c.a.def_ 30 (d := d_is_schedule) rfl; ⟨_, fd, He.glo_ok X G (c.a.fact 46 (f := .glo "is_schedule") rfl), F⟩
  have S_is_state : St0 K mg "is_state" sIsState := let ⟨fd, F⟩ := c.a.def_ 31 (d := d_is_state) rfl; ⟨_, fd, He.glo_ok X G (c.a.fact 47 (f := .glo "is_state") rfl), F⟩
  have S_is_valid : St0 K mg "is_valid" sIsValid := let ⟨fd, F⟩ := c.a.def_ 32 (d := d_is_valid) rfl; ⟨_, fd, He.glo_ok X G (c.a.fact 48 (f := .glo "is_valid") rfl), F⟩
  have S_level_table : St0 K mg "level_table" sLevelTable := let ⟨fd, F⟩ := c.a.def_ 33 (d := d_level_table) rfl; ⟨_, fd, He.glo_ok X G (c.a.fact 49 (f := .glo "level_table") rfl), F⟩
  have S_lone : St0 K mg "lone" sLone := let ⟨fd, F⟩ := c.a.def_ 34 (d := d_lone) rfl; ⟨_, fd, He.glo_ok X G (c.a.fact 50 (f := .glo "lone") rfl), F⟩
  have S_mates : St0 K mg "mates" sMates := let ⟨fd, F⟩ := c.a.def_ 35 (d := d_mates) rfl; ⟨_, fd, He.glo_ok X G (c.a.fact 51 (f := .glo "mates") rfl), F⟩
  have S_names_between : St0 K mg "names_between" sNamesB := let ⟨fd, F⟩ := c.a.def_ 36 (d := d_names_between) rfl; ⟨_, fd, He.glo_ok X G (c.a.fact 52 (f := .glo "names_between") rfl), F⟩
  have S_neighbour_table : St0 K mg "neighbour_table" sNeighbourTable := let ⟨fd, F⟩ := c.a.def_ 37 (d := d_neighbour_table) rfl; ⟨_, fd, He.glo_ok X G (c.a.fact 53 (f := .glo "neighbour_table") rfl), F⟩
  have S_neighbours : St0 K mg "neighbours" sNeighbours := let ⟨fd, F⟩ := c.a.def_ 38 (d := d_neighbours) rfl; ⟨_, fd, He.glo_ok X G (c.a.fact 54 (f := .glo "neighbours") rfl), F⟩
  have S_nodes : St0 K mg "nodes" sNodes := let ⟨fd, F⟩ := c.a.def_ 39 (d := d_nodes) rfl; ⟨_, fd, He.glo_ok X G (c.a.fact 55 (f := .glo "nodes") rfl), F⟩
  have S_odd_cycle : St0 K mg "odd_cycle" sOddCycle := let ⟨fd, F⟩ := c.a.def_ 40 (d := d_odd_cycle) rfl; ⟨_, fd, He.glo_ok X G (c.a.fact 56 (f := .glo "odd_cycle") rfl), F⟩
  have S_path : St0 K mg "path" sPath := let ⟨fd, F⟩ := c.a.def_ 41 (d := d_path) rfl; ⟨_, fd, He.glo_ok X G (c.a.fact 57 (f := .glo "path") rfl), F⟩
  have S_reachable : St0 K mg "reachable" sReachable := let ⟨fd, F⟩ := c.a.def_ 42 (d := d_reachable) rfl; ⟨_, fd, He.glo_ok X G (c.a.fact 58 (f := .glo "reachable") rfl), F⟩
  have S_rehearsed : St0 K mg "rehearsed" sReh := let ⟨fd, F⟩ := c.a.def_ 43 (d := d_rehearsed) rfl; ⟨_, fd, He.glo_ok X G (c.a.fact 59 (f := .glo "rehearsed") rfl), F⟩
  have S_run : St0 K mg "run" sRun := let ⟨fd, F⟩ := c.a.def_ 44 (d := d_run) rfl; ⟨_, fd, He.glo_ok X G (c.a.fact 60 (f := .glo "run") rfl), F⟩
  have S_sides : St0 K mg "sides" sSides := let ⟨fd, F⟩ := c.a.def_ 45 (d := d_sides) rfl; ⟨_, fd, He.glo_ok X G (c.a.fact 61 (f := .glo "sides") rfl), F⟩
  have S_trees : St0 K mg "trees" sTrees := let ⟨fd, F⟩ := c.a.def_ 46 (d := d_trees) rfl; ⟨_, fd, He.glo_ok X G (c.a.fact 62 (f := .glo "trees") rfl), F⟩
  have S_upgrade : St0 K mg "upgrade" sUpgrade := let ⟨fd, F⟩ := c.a.def_ 47 (d := d_upgrade) rfl; ⟨_, fd, He.glo_ok X G (c.a.fact 63 (f := .glo "upgrade") rfl), F⟩
  have S_walk : St0 K mg "walk" sWalk := let ⟨fd, F⟩ := c.a.def_ 48 (d := d_walk) rfl; ⟨_, fd, He.glo_ok X G (c.a.fact 64 (f := .glo "walk") rfl), F⟩
  have S_Blocked___init__ : StM K (He.ga K "Blocked") "__init__" "Blocked.__init__" sBlk := let ⟨fd, F⟩ := c.a.def_ 50 (d := d_Blocked___init__) rfl; ⟨_, fd, He.meth_ok (c.a.fact 92 (f := .meth "Blocked" "__init__") rfl), F⟩
  have S_Fleet___eq__ : StM K (He.ga K "Fleet") "__eq__" "Fleet.__eq__" sFEq := let ⟨fd, F⟩ := c.a.def_ 51 (d := d_Fleet___eq__) rfl; ⟨_, fd, He.meth_ok (c.a.fact 93 (f := .meth "Fleet" "__eq__") rfl), F⟩
  have S_Fleet___init__ : StM K (He.ga K "Fleet") "__init__" "Fleet.__init__" sFInit := let ⟨fd, F⟩ := c.a.def_ 52 (d := d_Fleet___init__) rfl; ⟨_, fd, He.meth_ok (c.a.fact 94 (f := .meth "Fleet" "__init__") rfl), F⟩
  have S_Fleet_check_replacement : StM K (He.ga K "Fleet") "check_replacement" "Fleet.check_replacement" sFCheck := let ⟨fd, F⟩ := c.a.def_ 53 (d := d_Fleet_check_replacement) rfl; ⟨_, fd, He.meth_ok (c.a.fact 95 (f := .meth "Fleet" "check_replacement") rfl), F⟩
  have S_Fleet_copy : StM K (He.ga K "Fleet") "copy" "Fleet.copy" sFCopy := let ⟨fd, F⟩ := c.a.def_ 54 (d := d_Fleet_copy) rfl; ⟨_, fd, He.meth_ok (c.a.fact 96 (f := .meth "Fleet" "copy") rfl), F⟩
  have S_Fleet_log : StM K (He.ga K "Fleet") "log" "Fleet.log" sFLog := let ⟨fd, F⟩ := c.a.def_ 55 (d := d_Fleet_log) rfl; ⟨_, fd, He.meth_ok (c.a.fact 97 (f := .meth "Fleet" "log") rfl), F⟩
  have S_Fleet_replace : StM K (He.ga K "Fleet") "replace" "Fleet.replace" sFReplace := let ⟨fd, F⟩ := c.a.def_ 56 (d := d_Fleet_replace) rfl; ⟨_, fd, He.meth_ok (c.a.fact 98 (f := .meth "Fleet" "replace") rfl), F⟩
  have S_Fleet_schedule_to : StM K (He.ga K "Fleet") "schedule_to" "Fleet.schedule_to" sFSched := let ⟨fd, F⟩ := c.a.def_ 57 (d := d_Fleet_schedule_to) rfl; ⟨_, fd, He.meth_ok (c.a.fact 99 (f := .meth "Fleet" "schedule_to") rfl), F⟩
  have S_Fleet_store : StM K (He.ga K "Fleet") "store" "Fleet.store" sFStore := let ⟨fd, F⟩ := c.a.def_ 58 (d := d_Fleet_store) rfl; ⟨_, fd, He.meth_ok (c.a.fact 100 (f := .meth "Fleet" "store") rfl), F⟩
  have S_Fleet_tried : StM K (He.ga K "Fleet") "tried" "Fleet.tried" sFTried := let ⟨fd, F⟩ := c.a.def_ 59 (d := d_Fleet_tried) rfl; ⟨_, fd, He.meth_ok (c.a.fact 101 (f := .meth "Fleet" "tried") rfl), F⟩
  have S_Fleet_twin : StM K (He.ga K "Fleet") "twin" "Fleet.twin" sFTwin := let ⟨fd, F⟩ := c.a.def_ 60 (d := d_Fleet_twin) rfl; ⟨_, fd, He.meth_ok (c.a.fact 102 (f := .meth "Fleet" "twin") rfl), F⟩
  have S_Fleet_undo : StM K (He.ga K "Fleet") "undo" "Fleet.undo" sFUndo := let ⟨fd, F⟩ := c.a.def_ 61 (d := d_Fleet_undo) rfl; ⟨_, fd, He.meth_ok (c.a.fact 103 (f := .meth "Fleet" "undo") rfl), F⟩
  have S_Fleet_upgrade : StM K (He.ga K "Fleet") "upgrade" "Fleet.upgrade" sFUpgrade := let ⟨fd, F⟩ := c.a.def_ 62 (d := d_Fleet_upgrade) rfl; ⟨_, fd, He.meth_ok (c.a.fact 104 (f := .meth "Fleet" "upgrade") rfl), F⟩
  have S_Mixed___init__ : StM K (He.ga K "Mixed") "__init__" "Mixed.__init__" sMix := let ⟨fd, F⟩ := c.a.def_ 63 (d := d_Mixed___init__) rfl; ⟨_, fd, He.meth_ok (c.a.fact 105 (f := .meth "Mixed" "__init__") rfl), F⟩
  have S_Pairing___init__ : StM K (He.ga K "Pairing") "__init__" "Pairing.__init__" sPInit := let ⟨fd, F⟩ := c.a.def_ 64 (d := d_Pairing___init__) rfl; ⟨_, fd, He.meth_ok (c.a.fact 106 (f := .meth "Pairing" "__init__") rfl), F⟩
  have S_Pairing_covering : StM K (He.ga K "Pairing") "covering" "Pairing.covering" sCovering := let ⟨fd, F⟩ := c.a.def_ 65 (d := d_Pairing_covering) rfl; ⟨_, fd, He.meth_ok (c.a.fact 107 (f := .meth "Pairing" "covering") rfl), F⟩
  have S_Pairing_met : StM K (He.ga K "Pairing") "met" "Pairing.met" sMet := let ⟨fd, F⟩ := c.a.def_ 66 (d := d_Pairing_met) rfl; ⟨_, fd, He.meth_ok (c.a.fact 108 (f := .meth "Pairing" "met") rfl), F⟩
  have S_Pairing_widen : StM K (He.ga K "Pairing") "widen" "Pairing.widen" sWiden := let ⟨fd, F⟩ := c.a.def_ 67 (d := d_Pairing_widen) rfl; ⟨_, fd, He.meth_ok (c.a.fact 109 (f := .meth "Pairing" "widen") rfl), F⟩
  have S_Trial___enter__ : StM K (He.ga K "Trial") "__enter__" "Trial.__enter__" sTEnter := let ⟨fd, F⟩ := c.a.def_ 68 (d := d_Trial___enter__) rfl; ⟨_, fd, He.meth_ok (c.a.fact 110 (f := .meth "Trial" "__enter__") rfl), F⟩
  have S_Trial___exit__ : StM K (He.ga K "Trial") "__exit__" "Trial.__exit__" sTExit := let ⟨fd, F⟩ := c.a.def_ 69 (d := d_Trial___exit__) rfl; ⟨_, fd, He.meth_ok (c.a.fact 111 (f := .meth "Trial" "__exit__") rfl), F⟩
  have S_Trial___init__ : StM K (He.ga K "Trial") "__init__" "Trial.__init__" sTInit := let ⟨fd, F⟩ := c.a.def_ 70 (d := d_Trial___init__) rfl; ⟨_, fd, He.meth_ok (c.a.fact 112 (f := .meth "Trial" "__init__") rfl), F⟩
  have S_Unreachable___init__ : StM K (He.ga K "Unreachable") "__init__" "Unreachable.__init__" sUnr := let ⟨fd, F⟩ := c.a.def_ 71 (d := d_Unreachable___init__) rfl; ⟨_, fd, He.meth_ok (c.a.fact 113 (f := .meth "Unreachable" "__init__") rfl), F⟩
  obtain ⟨x0, x1, x2, x3, x4, x5, x6, x7, x8, x9, x10, x11⟩ := exB_ok c.more
  have S_Fleet_made : StP K (He.ga K "Fleet") "made" "Fleet.made" sFMade := let ⟨fd, F⟩ := c.a.def_ 72 (d := d_Fleet_made) rfl; ⟨_, _, fd, x1, F⟩
  have S_Fleet_state : StP K (He.ga K "Fleet") "state" "Fleet.state" sFState := let ⟨fd, F⟩ := c.a.def_ 73 (d := d_Fleet_state) rfl; ⟨_, _, fd, x0, F⟩
  have c_Fleet : FCls K (He.ga K "Fleet") := ⟨He.cls_ok (c.a.fact 74 (f := .cls "Fleet") rfl), He.noat_ok (c.a.fact 80 (f := .noat "Fleet" "network_held") rfl), He.noat_ok (c.a.fact 81 (f := .noat "Fleet" "catalog_held") rfl), He.noat_ok (c.a.fact 82 (f := .noat "Fleet" "moment") rfl)⟩
  have c_Pairing : PCls K (He.ga K "Pairing") := ⟨He.cls_ok (c.a.fact 75 (f := .cls "Pairing") rfl), He.noat_ok (c.a.fact 83 (f := .noat "Pairing" "some") rfl), He.noat_ok (c.a.fact 84 (f := .noat "Pairing" "beside") rfl), He.noat_ok (c.a.fact 85 (f := .noat "Pairing" "left") rfl), He.noat_ok (c.a.fact 86 (f := .noat "Pairing" "mate_of") rfl)⟩
  have c_Trial : TCls K (He.ga K "Trial") := ⟨He.cls_ok (c.a.fact 76 (f := .cls "Trial") rfl), He.noat_ok (c.a.fact 87 (f := .noat "Trial" "fleet_tried") rfl), He.noat_ok (c.a.fact 88 (f := .noat "Trial" "moment_before") rfl)⟩
  have m_Fleet : MkC K (He.ga K "Fleet") := let M := He.mkr_ok (c.a.fact 77 (f := .mkr "Fleet") rfl); ⟨M.1, M.4⟩
  have m_Pairing : MkC K (He.ga K "Pairing") := let M := He.mkr_ok (c.a.fact 78 (f := .mkr "Pairing") rfl); ⟨M.1, M.4⟩
  have m_Trial : MkC K (He.ga K "Trial") := let M := He.mkr_ok (c.a.fact 79 (f := .mkr "Trial") rfl); ⟨M.1, M.4⟩
  have e_Unreachable : ExC K mg "Unreachable" "names" (He.ga K "Unreachable") := ⟨g_Unreachable, x2, He.noat_ok (c.a.fact 89 (f := .noat "Unreachable" "names") rfl)⟩
  have e_Blocked : ExC K mg "Blocked" "services" (He.ga K "Blocked") := ⟨g_Blocked, x3, He.noat_ok (c.a.fact 90 (f := .noat "Blocked" "services") rfl)⟩
  have e_Mixed : ExC K mg "Mixed" "present" (He.ga K "Mixed") := ⟨g_Mixed, x4, He.noat_ok (c.a.fact 91 (f := .noat "Mixed" "present") rfl)⟩
  have ue : UeC K (He.ga K "UpgradeError") := x5
  have isi : FIsi K (He.ga K "Fleet") := ⟨fun H a dx fs e => .base (.ins e c_Fleet.cl x8 x9 x10 x11), x7⟩
  have errs : Errs K (He.ga K "UpgradeError") (He.ga K "Blocked") (He.ga K "Unreachable") (He.ga K "Mixed") := ⟨He.exm_ok (c.a.fact 115 (f := .exm "Blocked" "UpgradeError" true) rfl), He.exm_ok (c.a.fact 114 (f := .exm "Unreachable" "UpgradeError" true) rfl), He.exm_ok (c.a.fact 116 (f := .exm "Mixed" "UpgradeError" true) rfl)⟩
  have hP : ∃ t, mg "PAIR" = some (.int 2 t) := He.int_ok X G (c.a.fact 117 (f := .int "PAIR" 2) rfl)
  have hM : ∃ t, mg "MOST_REPLACEMENTS" = some (.int 400 t) := He.int_ok X G (c.a.fact 118 (f := .int "MOST_REPLACEMENTS" 400) rfl)
  have g_uu : mg "upgrade_upgrades" = some (.ref (He.ga K "upgrade")) := by rw [← x6]; exact He.glo_ok X G (c.a.fact 73 (f := .glo "upgrade_upgrades") rfl)
  have D_has_release := ok_has_release (P := P) (w := w) (mg := mg) (base := base) bt S_has_release
  have D_check_release := ok_check_release (P := P) (w := w) (mg := mg) (base := base) S_check_release D_has_release
  have D_mates := ok_mates (P := P) (w := w) (mg := mg) (base := base) bt S_mates
  have D_level_table := ok_level_table (P := P) (w := w) (mg := mg) (base := base) D_mates S_level_table
  have D_distance := ok_distance (P := P) (w := w) (mg := mg) (base := base) bt D_check_release D_level_table S_distance
  have D_reachable := ok_reachable (P := P) (w := w) (mg := mg) (base := base) bt D_check_release D_level_table S_reachable
  have D_path := ok_path (P := P) (w := w) (mg := mg) (base := base) bt D_mates D_check_release D_level_table S_path
  have D_has_service := ok_has_service (P := P) (w := w) (mg := mg) (base := base) bt S_has_service
  have D_check_service := ok_check_service (P := P) (w := w) (mg := mg) (base := base) S_check_service D_has_service
  have D_neighbour_table := ok_neighbour_table (P := P) (w := w) (mg := mg) (base := base) bt S_neighbour_table
  have D_neighbours := ok_neighbours (P := P) (w := w) (mg := mg) (base := base) bt D_check_service D_neighbour_table S_neighbours
  have D_lone := ok_lone (P := P) (w := w) (mg := mg) (base := base) bt D_neighbour_table S_lone
  have D_trees := ok_trees (P := P) (w := w) (mg := mg) (base := base) bt D_neighbour_table S_trees
  have D_odd_cycle := ok_odd_cycle (P := P) (w := w) (mg := mg) (base := base) D_trees S_odd_cycle
  have D_check_two_sided := ok_check_two_sided (P := P) (w := w) (mg := mg) (base := base) D_odd_cycle S_check_two_sided
  have D_sides := ok_sides (P := P) (w := w) (mg := mg) (base := base) bt D_check_two_sided D_trees S_sides
  have D_is_state := ok_is_state (P := P) (w := w) (mg := mg) (base := base) bt D_has_release S_is_state
  have D_conflicts := ok_conflicts (P := P) (w := w) (mg := mg) (base := base) bt D_mates S_conflicts
  have D_is_valid := ok_is_valid (P := P) (w := w) (mg := mg) (base := base) bt D_is_state D_conflicts S_is_valid
  have D_in_the_way := ok_in_the_way (P := P) (w := w) (mg := mg) (base := base) bt D_mates D_neighbour_table S_in_the_way
  have D_blockers := ok_blockers (P := P) (w := w) (mg := mg) (base := base) D_check_service D_check_release D_in_the_way S_blockers
  have D_changed := ok_changed (P := P) (w := w) (mg := mg) (base := base) S_changed
  have D_is_replacement := ok_is_replacement (P := P) (w := w) (mg := mg) (base := base) bt hP D_has_service D_has_release S_is_replacement
  have D_is_schedule := ok_is_schedule (P := P) (w := w) (mg := mg) (base := base) bt hM D_is_replacement S_is_schedule
  have D_check_schedule := ok_check_schedule (P := P) (w := w) (mg := mg) (base := base) D_is_schedule S_check_schedule
  have D_walk := ok_walk (P := P) (w := w) (mg := mg) (base := base) bt D_in_the_way D_changed S_walk
  have D_run := ok_run (P := P) (w := w) (mg := mg) (base := base) bt D_check_schedule D_walk S_run
  have D_all_at := ok_all_at (P := P) (w := w) (mg := mg) (base := base) bt S_all_at
  have D_nodes := ok_nodes (P := P) (w := w) (mg := mg) (base := base) bt D_neighbour_table S_nodes
  have D_adjacent_to := ok_adjacent_to (P := P) (w := w) (mg := mg) (base := base) bt D_neighbours S_adjacent_to
  have M_Pairing_widen : Mf P w K mg base CX0 112 (He.ga K "Pairing") "widen" ["self", "node", "seen"] (spWiden (He.ga K "Pairing") 111) := widen_all c_Pairing S_Pairing_widen 111
  have M_Pairing_met := ok_met (P := P) (w := w) (mg := mg) (base := base) bt c_Pairing S_Pairing_met
  have M_Pairing_covering := ok_covering (P := P) (w := w) (mg := mg) (base := base) c_Pairing M_Pairing_met S_Pairing_covering
  have M_Pairing___init__ := ok_pinit (P := P) (w := w) (mg := mg) (base := base) bt c_Pairing D_sides D_adjacent_to M_Pairing_widen S_Pairing___init__
  have D_cover := ok_cover (P := P) (w := w) (mg := mg) (base := base) bt c_Pairing m_Pairing g_Pairing D_nodes M_Pairing___init__ M_Pairing_covering S_cover
  have D_greatest_apart := ok_greatest (P := P) (w := w) (mg := mg) (base := base) bt D_nodes D_cover S_greatest_apart
  have D_halves := ok_halves (P := P) (w := w) (mg := mg) (base := base) bt D_lone S_halves
  have D_along := ok_along (P := P) (w := w) (mg := mg) (base := base) bt D_halves D_lone S_along
  have M_Unreachable___init__ := ok_unr (P := P) (w := w) (mg := mg) (base := base) g_UpgradeError ue e_Unreachable S_Unreachable___init__
  have M_Blocked___init__ := ok_blk (P := P) (w := w) (mg := mg) (base := base) g_UpgradeError ue e_Blocked S_Blocked___init__
  have M_Mixed___init__ := ok_mix (P := P) (w := w) (mg := mg) (base := base) g_UpgradeError ue e_Mixed S_Mixed___init__
  have D_names_between := ok_names (P := P) (w := w) (mg := mg) (base := base) bt D_path S_names_between
  have D_checked_distance := ok_checked (P := P) (w := w) (mg := mg) (base := base) bt e_Unreachable D_distance D_sides D_reachable M_Unreachable___init__ S_checked_distance
  have D_upgrade := ok_upgrade (P := P) (w := w) (mg := mg) (base := base) D_checked_distance D_names_between D_greatest_apart D_along S_upgrade
  have D_upgrade_upgrades := D_alias D_upgrade g_upgrade g_uu
  have M_Fleet___init__ := ok_finit (P := P) (w := w) (mg := mg) (base := base) c_Fleet D_check_release D_all_at S_Fleet___init__
  have M_Fleet_log := ok_flog (P := P) (w := w) (mg := mg) (base := base) c_Fleet S_Fleet_log
  have M_Fleet_store := ok_fstore (P := P) (w := w) (mg := mg) (base := base) c_Fleet S_Fleet_store
  have M_Fleet_tried := ok_ftried (P := P) (w := w) (mg := mg) (base := base) c_Fleet D_run S_Fleet_tried
  have M_Fleet_check_replacement := ok_fcheck (P := P) (w := w) (mg := mg) (base := base) c_Fleet e_Blocked D_blockers M_Blocked___init__ S_Fleet_check_replacement
  have M_Fleet_replace := ok_freplace (P := P) (w := w) (mg := mg) (base := base) c_Fleet M_Fleet_check_replacement D_changed M_Fleet_store S_Fleet_replace
  have M_Fleet_schedule_to := ok_fsched (P := P) (w := w) (mg := mg) (base := base) c_Fleet D_upgrade_upgrades S_Fleet_schedule_to
  have M_Fleet_undo := ok_fundo (P := P) (w := w) (mg := mg) (base := base) c_Fleet S_Fleet_undo
  have M_Fleet_twin := ok_ftwin (P := P) (w := w) (mg := mg) (base := base) c_Fleet m_Fleet g_Fleet M_Fleet___init__ S_Fleet_twin
  have M_Fleet_copy := ok_fcopy (P := P) (w := w) (mg := mg) (base := base) c_Fleet M_Fleet_twin S_Fleet_copy
  have M_Fleet_upgrade := ok_fupgrade (P := P) (w := w) (mg := mg) (base := base) bt c_Fleet e_Mixed D_check_release M_Mixed___init__ M_Fleet_schedule_to D_all_at M_Fleet_store S_Fleet_upgrade
  have M_Fleet_state := ok_fstate (P := P) (w := w) (mg := mg) (base := base) c_Fleet S_Fleet_state
  have M_Fleet_made := ok_fmade (P := P) (w := w) (mg := mg) (base := base) bt c_Fleet S_Fleet_made
  have M_Fleet___eq__ := ok_feq (P := P) (w := w) (mg := mg) (base := base) bt c_Fleet isi g_Fleet S_Fleet___eq__
  have D__law_draw := ok_draw (P := P) (w := w) (mg := mg) (base := base) S__law_draw
  have D__law_any := ok_any (P := P) (w := w) (mg := mg) (base := base) bt D__law_draw S__law_any
  have M_Trial___init__ := ok_tinit (P := P) (w := w) (mg := mg) (base := base) c_Trial S_Trial___init__
  have M_Trial___enter__ := ok_tenter (P := P) (w := w) (mg := mg) (base := base) c_Trial c_Fleet S_Trial___enter__
  have M_Trial___exit__ := ok_texit (P := P) (w := w) (mg := mg) (base := base) c_Trial c_Fleet S_Trial___exit__
  have D__law_called := ok_called (P := P) (w := w) (mg := mg) (base := base) bt c_Fleet errs g_UpgradeError D__law_draw D__law_any M_Fleet_state M_Fleet_made M_Fleet_log M_Fleet_undo M_Fleet_replace M_Fleet_upgrade c_Trial m_Trial g_Trial M_Trial___init__ M_Trial___enter__ M_Trial___exit__ S__law_caught S_rehearsed ST
  have D__law_turned := ok_turned (P := P) (w := w) (mg := mg) (base := base) bt D__law_draw S__law_turned
  have D__law_names := ok_lnames (P := P) (w := w) (mg := mg) (base := base) bt D__law_draw D__law_any S__law_names
  have D__law_network := ok_network (P := P) (w := w) (mg := mg) (base := base) bt D__law_draw D__law_any D__law_names S__law_network
  have D__law_chain := ok_chain (P := P) (w := w) (mg := mg) (base := base) bt D__law_draw D__law_any D__law_turned D__law_names S__law_chain
  have D__law_deck := ok_deck (P := P) (w := w) (mg := mg) (base := base) bt S__law_deck
  have D__law_moment_right := ok_moment (P := P) (w := w) (mg := mg) (base := base) bt c_Fleet m_Fleet g_Fleet D_is_valid D_run M_Fleet___init__ M_Fleet_state M_Fleet_made M_Fleet_log M_Fleet_tried M_Fleet_replace M_Fleet___eq__ S__law_moment_right
  have D__law_right := ok_right (P := P) (w := w) (mg := mg) (base := base) bt c_Fleet m_Fleet g_Fleet D__law_draw D__law_any D__law_network D__law_chain D__law_called D__law_moment_right M_Fleet___init__ M_Fleet_state M_Fleet_log M_Fleet_undo M_Fleet_copy M_Fleet___eq__ S__law_right
  exact ok_law bt D__law_deck D__law_right FL
end
end G3
end

/-! ## HD -/
section
set_option Elab.async false
set_option linter.all false
set_option maxRecDepth 100000
set_option maxHeartbeats 0
open PySem PySem.W PySem.Calls PyProof.Rows
theorem PySem.Challenge.cw_gridupgrade_k67_whole_histories_of_fleet_holds : PySem.Challenge.rw_gridupgrade_k67_whole_histories_of_fleet.Holds := by
  w_on; o_law
  refine HandSHeadRun.head_any (r := OpenLaw.row PySem.Challenge.rw_gridupgrade_k67_whole_histories_of_fleet) (q := view (OpenLaw.row PySem.Challenge.rw_gridupgrade_k67_whole_histories_of_fleet).prog [77]) (H := G3.hkL) (ob := G3.obL) (M := 6000) (loose := G3.looseL) (d := HandSHeadRun.topDef (OpenLaw.row PySem.Challenge.rw_gridupgrade_k67_whole_histories_of_fleet).prog 77) (kwd := []) G3.obL_eq
    (by kernel_rfl) (fun s => by kernel_rfl) G3.runL (by kernel_rfl) (by kernel_rfl) (by kernel_rfl) (by rfl) (by first | assumption | decide +kernel) (by decide +kernel) ⟨rfl, rfl, rfl, rfl, rfl, by decide +kernel⟩ ?hw ?hc
  case hw => w_witness2
  case hc =>
    refine LamX.walk_ofTsE (l := PySem.Challenge.rw_gridupgrade_k67_whole_histories_of_fleet) (n := 63) (k := 124) (x := "_law_script") (CX := fun _ => L2.CX0) rfl (by decide) (by kernel_rfl) ⟨rfl, by decide, by decide⟩ ?F (fun _ _ _ _ _ z => z)
    intro w mg fa h Y G hmg0
    obtain ⟨K, KX, c⟩ := Y
    have hmg : mg ("law" : PySem.Str) = some (.ref fa) := by
      have e : (HandSHeadRun.topDef (OpenLaw.row PySem.Challenge.rw_gridupgrade_k67_whole_histories_of_fleet).prog 77).name = ("law" : PySem.Str) := by kernel_rfl
      rw [← e]
      exact hmg0
    exact ⟨K, KX, G3.law_at KX G hmg c⟩
end
