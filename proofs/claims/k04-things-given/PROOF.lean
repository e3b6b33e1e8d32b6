import PyProof.Rows.All
import Wide.All
import OpenK.AllK
import Wide.FinOn
import KE.KStateDown
import HandS.Head0
import HandS.Head1
import HandS.Head2
import HandS.HeadEnd
import HandS.HeadHook1
import HandS.HeadHook2
import HandS.Words
import HandS.ForMost
import HandS.Wide
import HandS.TupLe
import HandS.TupAny
import HandS.SortInts
import HandS.DictTup
import HandS.Conv
import HandS.RevRange
import HandS.ExcInit
import HandS.ExcField
import KE.DataCmp
import KE.SortData
import KE.DataEq
import KE.IntBitsLaws
import HandS.WideMore
import PyProof.StrBlock2
import HandS.IsInst
import HandS.WideBits
import HandS.Text
import HandS.Style
import HandS.More
import HandS.SetFor
import KE.GoesMore
import HandS.Zip
import HandS.SortRule
import HandS.Defaults
import HandS.MakeKw
import HandS.Iter
import KE.DataMinMax
import HandS.NoneIn
import HandS.SetKeys
import HandS.MakeKwOnly
import HandS.Flow
import HandS.Steps
import HandS.ClsMeth
import HandS.ExcOwn
import HandS.WordsExc
import HandS.HotCalls
import HandS.ExcIs
import KE.KExcIs
import HandS.CallSlots
import KE.OsRunLaw
import PySem.Challenge.RW_leastenvy_k04_things_given
set_option Elab.async false
set_option linter.all false
set_option maxRecDepth 100000
set_option autoImplicit false
set_option maxHeartbeats 0
/-! the head's facts: defs by names, checks of a part of the heap -/
namespace Lv
open PySem PySem.Spec PyProof.Rows L2
def obsM (ck : List (PySem.W.Frag → Bool)) (fn : List He.DefD) (K : PySem.W.Frag) : Bool × List He.FnW := ((ck.all fun f => f K) && fn.all fun d => d.ok K, fn.map fun d => He.fnW K d.at_)
def obsMG (as : List Addr) (ck : List (PySem.W.Frag → Bool)) (fn : List He.DefD) (g : Addr → Option Obj) : Bool × List He.FnW := obsM ck fn (He.frG g as)
def valM (fn : List He.DefD) : Bool × List He.FnW := (true, fn.map He.DefD.val)
def hookM (as : List Addr) (ck : List (PySem.W.Frag → Bool)) (fn : List He.DefD) : PySem.W.Hook where
  α := Bool × List He.FnW
  obs := fun s => obsMG as ck fn s.heap.get?
  val := fun _ => valM fn
  says := fun _ h => ∃ K : PySem.W.Frag, K.In h ∧ obsM ck fn K = valM fn
  of := fun _ _ e => ⟨_, He.frG_in, e⟩
  keeps := fun _ _ _ ⟨K, hK, c⟩ k => ⟨K, PySem.W.Frag.In.keeps hK k, c⟩
theorem obsMG_eq {as : List Addr} {ck : List (PySem.W.Frag → Bool)} {fn : List He.DefD} {g : Addr → Option Obj} {s : Shared} (h : ∀ a, g a = s.heap.get? a) : obsMG as ck fn g = (hookM as ck fn).obs s := by
  have e : g = s.heap.get? := funext h
  rw [e] <;> rfl
section
variable {ck : List (PySem.W.Frag → Bool)} {fn : List He.DefD} {K : PySem.W.Frag}
theorem factM (c : obsM ck fn K = valM fn) (i : Nat) {f : PySem.W.Frag → Bool} (h : ck[i]? = some f := by rfl) : f K = true := by
  have c1 := (He.ba (show ((ck.all fun f => f K) && fn.all fun d => d.ok K) = true from congrArg (fun z : Bool × List He.FnW => z.1) c)).1
  exact List.all_eq_true.mp c1 f (List.mem_of_getElem? h)
theorem defM (c : obsM ck fn K = valM fn) (i : Nat) {d : He.DefD} (h : fn[i]? = some d := by rfl) : ∃ fd, FunD K d.name d.qual d.params d.body d.scope (d.dvs K) (d.kws K) (He.fAd K d.at_) fd := by
  have c2 := (He.ba (show ((ck.all fun f => f K) && fn.all fun d => d.ok K) = true from congrArg (fun z : Bool × List He.FnW => z.1) c)).2
  have e : fn.map (fun d => He.fnW K d.at_) = fn.map He.DefD.val := congrArg (fun z : Bool × List He.FnW => z.2) c
  have e2 : (fn.map fun d => He.fnW K d.at_)[i]? = (fn.map He.DefD.val)[i]? := by rw [e]
  rw [List.getElem?_map, List.getElem?_map, h] at e2
  exact He.DefD.funD (Option.some.inj e2) (List.all_eq_true.mp c2 d (List.mem_of_getElem? h))
theorem fun_of {x qual : Str} {st : Stmt} {f : Addr} {fd : FuncData} (F : FunD K x qual (defArgs st) (defBody st) (defScope st) [] [] f fd) : Fun K x qual st f fd := by
  obtain ⟨⟨oc, od, dV, kV, doc, pm, an, cdv, ct, osl, rfl, lk, hcd, hD, hK⟩, kp⟩ := F
  rcases hD with ⟨_, rfl⟩ | ⟨e, _⟩
  · exact fun_mk lk hcd kp
  · exact absurd rfl e
end
/-- what the written part must say of a class of exceptions, of its base's __init__ -/
def veB (K : PySem.W.Frag) (B : Addr) : Bool := match PySem.W.findCls K (.ref B) (.type "type") "__init__" with
  | some (.val (.builtin z)) => decide (z = "ValueError.__init__")
  | _ => false
def oexB (K : PySem.W.Frag) (C : Addr) : Bool := match K.lookup C with
  | some ⟨.type "type", _, .cls cd, sl⟩ => match cd.mro, sl.toList with
    | .ref C2 :: bm, [_, _, _, _, some (.builtin z), _] => decide (C2 = C) && decide (z = "ValueError.__new__") && !cd.hasDel && cd.hasDict && PySem.HandSPX.refsVE bm
    | _, _ => false
  | _ => false
/-- two runs, each with a part of the facts -/
theorem runEq_split {r : PySem.W.OpenRow} {q : Program} {M : Nat} {loose : List PySem.Str} {w : World} {as : List Addr} {ck1 ck2 : List (PySem.W.Frag → Bool)} {fn1 fn2 : List He.DefD}
    (h1 : HandSHeadRun.RunEq r q (hookM as ck1 fn1) (fun s => obsMG as ck1 fn1 (HandSHeadRun.getT s)) M loose w) (h2 : HandSHeadRun.RunEq r q (hookM as ck2 fn2) (fun s => obsMG as ck2 fn2 (HandSHeadRun.getT s)) M loose w) :
    HandSHeadRun.RunEq r q (hookM as (ck1 ++ ck2) (fn1 ++ fn2)) (fun s => obsMG as (ck1 ++ ck2) (fn1 ++ fn2) (HandSHeadRun.getT s)) M loose w := by
  intro os
  have a := h1 os
  have b := h2 os
  generalize HandSHeadRun.endF _ _ _ _ _ = o at a b ⊢
  cases o with
  | none => cases a
  | some s =>
    simp only [Option.map_some, Option.some.injEq, Prod.mk.injEq] at a b ⊢
    have a1 := a.1
    have a3 : obsMG as ck1 fn1 (HandSHeadRun.getT s) = valM fn1 := congrArg Prod.snd a.2
    have b3 : obsMG as ck2 fn2 (HandSHeadRun.getT s) = valM fn2 := congrArg Prod.snd b.2
    have as_ := congrArg Prod.fst a.2
    refine ⟨a1, Prod.ext as_ ?_⟩
    show obsMG as (ck1 ++ ck2) (fn1 ++ fn2) (HandSHeadRun.getT s) = valM (fn1 ++ fn2)
    unfold obsMG obsM valM at a3 b3 ⊢
    simp only [Prod.mk.injEq, Bool.and_eq_true] at a3 b3 ⊢
    obtain ⟨⟨a4, a5⟩, a6⟩ := a3
    obtain ⟨⟨b4, b5⟩, b6⟩ := b3
    simp only [List.all_append, List.map_append, a4, a5, a6, b4, b5, b6, Bool.and_self, and_self]
end Lv
set_option Elab.async false
set_option linter.all false
set_option maxRecDepth 100000
set_option autoImplicit false
set_option maxHeartbeats 0
namespace Lk04
open PySem PySem.Spec PyProof.Rows L2 Lv
def top (i : Nat) : Stmt := PySem.Challenge.pw_leastenvy_k04_things_given.main.body.getD i (.Pass ⟨0, 0, 0, 0⟩)
def cK0 (K : PySem.W.Frag) : Bool := decide ((PySem.W.nsIn K mainGlobals "things_of" = some (some (.ref (He.fAd K ("things_of", none))))) ∧ (PySem.W.nsIn K mainGlobals "check_thing" = some (some (.ref (He.fAd K ("check_thing", none))))) ∧ (PySem.W.nsIn K mainGlobals "hands_of" = some (some (.ref (He.fAd K ("hands_of", none))))) ∧ (PySem.W.nsIn K mainGlobals "check_hand" = some (some (.ref (He.fAd K ("check_hand", none))))) ∧ (PySem.W.nsIn K mainGlobals "thing_given" = some (some (.ref (He.fAd K ("thing_given", none))))) ∧ (PySem.W.nsIn K mainGlobals "_law_told" = some (some (.ref (He.fAd K ("_law_told", none))))) ∧ (PySem.W.nsIn K mainGlobals "_law_far" = some (some (.ref (He.fAd K ("_law_far", none))))) ∧ (PySem.W.nsIn K mainGlobals "_law_cell_at" = some (some (.ref (He.fAd K ("_law_cell_at", none))))) ∧ (PySem.W.nsIn K mainGlobals "_law_due" = some (some (.ref (He.fAd K ("_law_due", none))))) ∧ (PySem.W.nsIn K mainGlobals "law" = some (some (.ref (He.fAd K ("law", none))))) ∧ (PySem.W.nsIn K mainGlobals "_law_others" = some (some (.ref (He.fAd K ("_law_others", none))))) ∧ (PySem.W.nsIn K mainGlobals "isinstance" = some none) ∧ (PySem.W.nsIn K mainGlobals "len" = some none) ∧ (PySem.W.nsIn K mainGlobals "list" = some none) ∧ (PySem.W.nsIn K mainGlobals "max" = some none) ∧ (PySem.W.nsIn K mainGlobals "min" = some none))
theorem cK0_ok {K : PySem.W.Frag} (h : cK0 K = true) : (PySem.W.nsIn K mainGlobals "things_of" = some (some (.ref (He.fAd K ("things_of", none))))) ∧ (PySem.W.nsIn K mainGlobals "check_thing" = some (some (.ref (He.fAd K ("check_thing", none))))) ∧ (PySem.W.nsIn K mainGlobals "hands_of" = some (some (.ref (He.fAd K ("hands_of", none))))) ∧ (PySem.W.nsIn K mainGlobals "check_hand" = some (some (.ref (He.fAd K ("check_hand", none))))) ∧ (PySem.W.nsIn K mainGlobals "thing_given" = some (some (.ref (He.fAd K ("thing_given", none))))) ∧ (PySem.W.nsIn K mainGlobals "_law_told" = some (some (.ref (He.fAd K ("_law_told", none))))) ∧ (PySem.W.nsIn K mainGlobals "_law_far" = some (some (.ref (He.fAd K ("_law_far", none))))) ∧ (PySem.W.nsIn K mainGlobals "_law_cell_at" = some (some (.ref (He.fAd K ("_law_cell_at", none))))) ∧ (PySem.W.nsIn K mainGlobals "_law_due" = some (some (.ref (He.fAd K ("_law_due", none))))) ∧ (PySem.W.nsIn K mainGlobals "law" = some (some (.ref (He.fAd K ("law", none))))) ∧ (PySem.W.nsIn K mainGlobals "_law_others" = some (some (.ref (He.fAd K ("_law_others", none))))) ∧ (PySem.W.nsIn K mainGlobals "isinstance" = some none) ∧ (PySem.W.nsIn K mainGlobals "len" = some none) ∧ (PySem.W.nsIn K mainGlobals "list" = some none) ∧ (PySem.W.nsIn K mainGlobals "max" = some none) ∧ (PySem.W.nsIn K mainGlobals "min" = some none) := of_decide_eq_true h
def cK1 (K : PySem.W.Frag) : Bool := decide ((PySem.W.nsIn K mainGlobals "range" = some none) ∧ (PySem.W.nsIn K mainGlobals "EnvyError" = some (some (.ref (He.ga K "EnvyError")))) ∧ (PySem.W.nsIn K mainGlobals "Held" = some (some (.ref (He.ga K "Held")))) ∧ (PySem.W.nsIn K mainGlobals "NoDealer" = some (some (.ref (He.ga K "NoDealer")))) ∧ (PySem.W.nsIn K mainGlobals "NoHand" = some (some (.ref (He.ga K "NoHand")))) ∧ (PySem.W.nsIn K mainGlobals "NoName" = some (some (.ref (He.ga K "NoName")))) ∧ (PySem.W.nsIn K mainGlobals "NoNumber" = some (some (.ref (He.ga K "NoNumber")))) ∧ (PySem.W.nsIn K mainGlobals "NoOrder" = some (some (.ref (He.ga K "NoOrder")))) ∧ (PySem.W.nsIn K mainGlobals "NoRing" = some (some (.ref (He.ga K "NoRing")))) ∧ (PySem.W.nsIn K mainGlobals "NoRow" = some (some (.ref (He.ga K "NoRow")))) ∧ (PySem.W.nsIn K mainGlobals "NoThing" = some (some (.ref (He.ga K "NoThing")))) ∧ (PySem.W.nsIn K mainGlobals "NoWeights" = some (some (.ref (He.ga K "NoWeights")))) ∧ (PySem.W.nsIn K mainGlobals "NotFair" = some (some (.ref (He.ga K "NotFair")))) ∧ (PySem.W.nsIn K mainGlobals "NotTwo" = some (some (.ref (He.ga K "NotTwo")))) ∧ (PySem.W.nsIn K mainGlobals "TooMany" = some (some (.ref (He.ga K "TooMany")))) ∧ (PySem.W.nsIn K mainGlobals "Twice" = some (some (.ref (He.ga K "Twice")))))
theorem cK1_ok {K : PySem.W.Frag} (h : cK1 K = true) : (PySem.W.nsIn K mainGlobals "range" = some none) ∧ (PySem.W.nsIn K mainGlobals "EnvyError" = some (some (.ref (He.ga K "EnvyError")))) ∧ (PySem.W.nsIn K mainGlobals "Held" = some (some (.ref (He.ga K "Held")))) ∧ (PySem.W.nsIn K mainGlobals "NoDealer" = some (some (.ref (He.ga K "NoDealer")))) ∧ (PySem.W.nsIn K mainGlobals "NoHand" = some (some (.ref (He.ga K "NoHand")))) ∧ (PySem.W.nsIn K mainGlobals "NoName" = some (some (.ref (He.ga K "NoName")))) ∧ (PySem.W.nsIn K mainGlobals "NoNumber" = some (some (.ref (He.ga K "NoNumber")))) ∧ (PySem.W.nsIn K mainGlobals "NoOrder" = some (some (.ref (He.ga K "NoOrder")))) ∧ (PySem.W.nsIn K mainGlobals "NoRing" = some (some (.ref (He.ga K "NoRing")))) ∧ (PySem.W.nsIn K mainGlobals "NoRow" = some (some (.ref (He.ga K "NoRow")))) ∧ (PySem.W.nsIn K mainGlobals "NoThing" = some (some (.ref (He.ga K "NoThing")))) ∧ (PySem.W.nsIn K mainGlobals "NoWeights" = some (some (.ref (He.ga K "NoWeights")))) ∧ (PySem.W.nsIn K mainGlobals "NotFair" = some (some (.ref (He.ga K "NotFair")))) ∧ (PySem.W.nsIn K mainGlobals "NotTwo" = some (some (.ref (He.ga K "NotTwo")))) ∧ (PySem.W.nsIn K mainGlobals "TooMany" = some (some (.ref (He.ga K "TooMany")))) ∧ (PySem.W.nsIn K mainGlobals "Twice" = some (some (.ref (He.ga K "Twice")))) := of_decide_eq_true h
def cK2 (K : PySem.W.Frag) : Bool := decide ((PySem.W.nsIn K mainGlobals "ValueError" = some none) ∧ (PySem.W.keepIn K (.ref (He.ga K "Held")) = true) ∧ (PySem.W.subIn K (.ref (He.ga K "Held")) (.type "BaseException") = some true) ∧ (PySem.W.typeIn K (.ref (He.ga K "Held")) = some (.type "type")) ∧ (PySem.W.findIn K (.ref (He.ga K "Held")) "__getattribute__" = some (some (.builtin "BaseException.__getattribute__"))) ∧ (PySem.W.findIn K (.ref (He.ga K "Held")) "__getattr__" = some none) ∧ (PySem.W.hasDictIn K (He.ga K "Held") = true) ∧ (PySem.W.findIn K (.ref (He.ga K "Held")) "__class__" = some (some (.builtin "object.__class__"))) ∧ (PySem.W.mroIn K (He.ga K "Held") (.type "object") = some true) ∧ (PySem.W.subIn K (.ref (He.ga K "Held")) (.ref (He.ga K "EnvyError")) = some true) ∧ (PySem.W.subIn K (.ref (He.ga K "Held")) (.ref (He.ga K "Held")) = some true) ∧ (PySem.W.subIn K (.ref (He.ga K "Held")) (.ref (He.ga K "NoDealer")) = some false) ∧ (PySem.W.subIn K (.ref (He.ga K "Held")) (.ref (He.ga K "NoHand")) = some false) ∧ (PySem.W.subIn K (.ref (He.ga K "Held")) (.ref (He.ga K "NoName")) = some false) ∧ (PySem.W.subIn K (.ref (He.ga K "Held")) (.ref (He.ga K "NoNumber")) = some false) ∧ (PySem.W.subIn K (.ref (He.ga K "Held")) (.ref (He.ga K "NoOrder")) = some false))
theorem cK2_ok {K : PySem.W.Frag} (h : cK2 K = true) : (PySem.W.nsIn K mainGlobals "ValueError" = some none) ∧ (PySem.W.keepIn K (.ref (He.ga K "Held")) = true) ∧ (PySem.W.subIn K (.ref (He.ga K "Held")) (.type "BaseException") = some true) ∧ (PySem.W.typeIn K (.ref (He.ga K "Held")) = some (.type "type")) ∧ (PySem.W.findIn K (.ref (He.ga K "Held")) "__getattribute__" = some (some (.builtin "BaseException.__getattribute__"))) ∧ (PySem.W.findIn K (.ref (He.ga K "Held")) "__getattr__" = some none) ∧ (PySem.W.hasDictIn K (He.ga K "Held") = true) ∧ (PySem.W.findIn K (.ref (He.ga K "Held")) "__class__" = some (some (.builtin "object.__class__"))) ∧ (PySem.W.mroIn K (He.ga K "Held") (.type "object") = some true) ∧ (PySem.W.subIn K (.ref (He.ga K "Held")) (.ref (He.ga K "EnvyError")) = some true) ∧ (PySem.W.subIn K (.ref (He.ga K "Held")) (.ref (He.ga K "Held")) = some true) ∧ (PySem.W.subIn K (.ref (He.ga K "Held")) (.ref (He.ga K "NoDealer")) = some false) ∧ (PySem.W.subIn K (.ref (He.ga K "Held")) (.ref (He.ga K "NoHand")) = some false) ∧ (PySem.W.subIn K (.ref (He.ga K "Held")) (.ref (He.ga K "NoName")) = some false) ∧ (PySem.W.subIn K (.ref (He.ga K "Held")) (.ref (He.ga K "NoNumber")) = some false) ∧ (PySem.W.subIn K (.ref (He.ga K "Held")) (.ref (He.ga K "NoOrder")) = some false) := of_decide_eq_true h
def cK3 (K : PySem.W.Frag) : Bool := decide ((PySem.W.subIn K (.ref (He.ga K "Held")) (.ref (He.ga K "NoRing")) = some false) ∧ (PySem.W.subIn K (.ref (He.ga K "Held")) (.ref (He.ga K "NoRow")) = some false) ∧ (PySem.W.subIn K (.ref (He.ga K "Held")) (.ref (He.ga K "NoThing")) = some false) ∧ (PySem.W.subIn K (.ref (He.ga K "Held")) (.ref (He.ga K "NoWeights")) = some false) ∧ (PySem.W.subIn K (.ref (He.ga K "Held")) (.ref (He.ga K "NotFair")) = some false) ∧ (PySem.W.subIn K (.ref (He.ga K "Held")) (.ref (He.ga K "NotTwo")) = some false) ∧ (PySem.W.subIn K (.ref (He.ga K "Held")) (.ref (He.ga K "TooMany")) = some false) ∧ (PySem.W.subIn K (.ref (He.ga K "Held")) (.ref (He.ga K "Twice")) = some false) ∧ (PySem.W.subIn K (.ref (He.ga K "Held")) (.type "ValueError") = some true) ∧ (PySem.W.keepIn K (.ref (He.ga K "NoHand")) = true) ∧ (PySem.W.excIn K (He.ga K "NoHand") [.type "ValueError", .type "Exception", .type "BaseException", .type "object"] "ValueError.__new__" = true) ∧ (PySem.W.subIn K (.ref (He.ga K "NoHand")) (.type "BaseException") = some true) ∧ (PySem.W.typeIn K (.ref (He.ga K "NoHand")) = some (.type "type")) ∧ (PySem.W.findIn K (.ref (He.ga K "NoHand")) "__getattribute__" = some (some (.builtin "BaseException.__getattribute__"))) ∧ (PySem.W.findIn K (.ref (He.ga K "NoHand")) "__getattr__" = some none) ∧ (PySem.W.hasDictIn K (He.ga K "NoHand") = true))
theorem cK3_ok {K : PySem.W.Frag} (h : cK3 K = true) : (PySem.W.subIn K (.ref (He.ga K "Held")) (.ref (He.ga K "NoRing")) = some false) ∧ (PySem.W.subIn K (.ref (He.ga K "Held")) (.ref (He.ga K "NoRow")) = some false) ∧ (PySem.W.subIn K (.ref (He.ga K "Held")) (.ref (He.ga K "NoThing")) = some false) ∧ (PySem.W.subIn K (.ref (He.ga K "Held")) (.ref (He.ga K "NoWeights")) = some false) ∧ (PySem.W.subIn K (.ref (He.ga K "Held")) (.ref (He.ga K "NotFair")) = some false) ∧ (PySem.W.subIn K (.ref (He.ga K "Held")) (.ref (He.ga K "NotTwo")) = some false) ∧ (PySem.W.subIn K (.ref (He.ga K "Held")) (.ref (He.ga K "TooMany")) = some false) ∧ (PySem.W.subIn K (.ref (He.ga K "Held")) (.ref (He.ga K "Twice")) = some false) ∧ (PySem.W.subIn K (.ref (He.ga K "Held")) (.type "ValueError") = some true) ∧ (PySem.W.keepIn K (.ref (He.ga K "NoHand")) = true) ∧ (PySem.W.excIn K (He.ga K "NoHand") [.type "ValueError", .type "Exception", .type "BaseException", .type "object"] "ValueError.__new__" = true) ∧ (PySem.W.subIn K (.ref (He.ga K "NoHand")) (.type "BaseException") = some true) ∧ (PySem.W.typeIn K (.ref (He.ga K "NoHand")) = some (.type "type")) ∧ (PySem.W.findIn K (.ref (He.ga K "NoHand")) "__getattribute__" = some (some (.builtin "BaseException.__getattribute__"))) ∧ (PySem.W.findIn K (.ref (He.ga K "NoHand")) "__getattr__" = some none) ∧ (PySem.W.hasDictIn K (He.ga K "NoHand") = true) := of_decide_eq_true h
def cK4 (K : PySem.W.Frag) : Bool := decide ((PySem.W.findIn K (.ref (He.ga K "NoHand")) "__class__" = some (some (.builtin "object.__class__"))) ∧ (PySem.W.mroIn K (He.ga K "NoHand") (.type "object") = some true) ∧ (PySem.W.subIn K (.ref (He.ga K "NoHand")) (.ref (He.ga K "EnvyError")) = some true) ∧ (PySem.W.subIn K (.ref (He.ga K "NoHand")) (.ref (He.ga K "Held")) = some false) ∧ (PySem.W.subIn K (.ref (He.ga K "NoHand")) (.ref (He.ga K "NoDealer")) = some false) ∧ (PySem.W.subIn K (.ref (He.ga K "NoHand")) (.ref (He.ga K "NoHand")) = some true) ∧ (PySem.W.subIn K (.ref (He.ga K "NoHand")) (.ref (He.ga K "NoName")) = some false) ∧ (PySem.W.subIn K (.ref (He.ga K "NoHand")) (.ref (He.ga K "NoNumber")) = some false) ∧ (PySem.W.subIn K (.ref (He.ga K "NoHand")) (.ref (He.ga K "NoOrder")) = some false) ∧ (PySem.W.subIn K (.ref (He.ga K "NoHand")) (.ref (He.ga K "NoRing")) = some false) ∧ (PySem.W.subIn K (.ref (He.ga K "NoHand")) (.ref (He.ga K "NoRow")) = some false) ∧ (PySem.W.subIn K (.ref (He.ga K "NoHand")) (.ref (He.ga K "NoThing")) = some false) ∧ (PySem.W.subIn K (.ref (He.ga K "NoHand")) (.ref (He.ga K "NoWeights")) = some false) ∧ (PySem.W.subIn K (.ref (He.ga K "NoHand")) (.ref (He.ga K "NotFair")) = some false) ∧ (PySem.W.subIn K (.ref (He.ga K "NoHand")) (.ref (He.ga K "NotTwo")) = some false) ∧ (PySem.W.subIn K (.ref (He.ga K "NoHand")) (.ref (He.ga K "TooMany")) = some false))
theorem cK4_ok {K : PySem.W.Frag} (h : cK4 K = true) : (PySem.W.findIn K (.ref (He.ga K "NoHand")) "__class__" = some (some (.builtin "object.__class__"))) ∧ (PySem.W.mroIn K (He.ga K "NoHand") (.type "object") = some true) ∧ (PySem.W.subIn K (.ref (He.ga K "NoHand")) (.ref (He.ga K "EnvyError")) = some true) ∧ (PySem.W.subIn K (.ref (He.ga K "NoHand")) (.ref (He.ga K "Held")) = some false) ∧ (PySem.W.subIn K (.ref (He.ga K "NoHand")) (.ref (He.ga K "NoDealer")) = some false) ∧ (PySem.W.subIn K (.ref (He.ga K "NoHand")) (.ref (He.ga K "NoHand")) = some true) ∧ (PySem.W.subIn K (.ref (He.ga K "NoHand")) (.ref (He.ga K "NoName")) = some false) ∧ (PySem.W.subIn K (.ref (He.ga K "NoHand")) (.ref (He.ga K "NoNumber")) = some false) ∧ (PySem.W.subIn K (.ref (He.ga K "NoHand")) (.ref (He.ga K "NoOrder")) = some false) ∧ (PySem.W.subIn K (.ref (He.ga K "NoHand")) (.ref (He.ga K "NoRing")) = some false) ∧ (PySem.W.subIn K (.ref (He.ga K "NoHand")) (.ref (He.ga K "NoRow")) = some false) ∧ (PySem.W.subIn K (.ref (He.ga K "NoHand")) (.ref (He.ga K "NoThing")) = some false) ∧ (PySem.W.subIn K (.ref (He.ga K "NoHand")) (.ref (He.ga K "NoWeights")) = some false) ∧ (PySem.W.subIn K (.ref (He.ga K "NoHand")) (.ref (He.ga K "NotFair")) = some false) ∧ (PySem.W.subIn K (.ref (He.ga K "NoHand")) (.ref (He.ga K "NotTwo")) = some false) ∧ (PySem.W.subIn K (.ref (He.ga K "NoHand")) (.ref (He.ga K "TooMany")) = some false) := of_decide_eq_true h
def cK5 (K : PySem.W.Frag) : Bool := decide ((PySem.W.subIn K (.ref (He.ga K "NoHand")) (.ref (He.ga K "Twice")) = some false) ∧ (PySem.W.subIn K (.ref (He.ga K "NoHand")) (.type "ValueError") = some true) ∧ (PySem.W.keepIn K (.ref (He.ga K "NoThing")) = true) ∧ (PySem.W.excIn K (He.ga K "NoThing") [.type "ValueError", .type "Exception", .type "BaseException", .type "object"] "ValueError.__new__" = true) ∧ (PySem.W.subIn K (.ref (He.ga K "NoThing")) (.type "BaseException") = some true) ∧ (PySem.W.typeIn K (.ref (He.ga K "NoThing")) = some (.type "type")) ∧ (PySem.W.findIn K (.ref (He.ga K "NoThing")) "__getattribute__" = some (some (.builtin "BaseException.__getattribute__"))) ∧ (PySem.W.findIn K (.ref (He.ga K "NoThing")) "__getattr__" = some none) ∧ (PySem.W.hasDictIn K (He.ga K "NoThing") = true) ∧ (PySem.W.findIn K (.ref (He.ga K "NoThing")) "__class__" = some (some (.builtin "object.__class__"))) ∧ (PySem.W.mroIn K (He.ga K "NoThing") (.type "object") = some true) ∧ (PySem.W.subIn K (.ref (He.ga K "NoThing")) (.ref (He.ga K "EnvyError")) = some true) ∧ (PySem.W.subIn K (.ref (He.ga K "NoThing")) (.ref (He.ga K "Held")) = some false) ∧ (PySem.W.subIn K (.ref (He.ga K "NoThing")) (.ref (He.ga K "NoDealer")) = some false) ∧ (PySem.W.subIn K (.ref (He.ga K "NoThing")) (.ref (He.ga K "NoHand")) = some false) ∧ (PySem.W.subIn K (.ref (He.ga K "NoThing")) (.ref (He.ga K "NoName")) = some false))
theorem cK5_ok {K : PySem.W.Frag} (h : cK5 K = true) : (PySem.W.subIn K (.ref (He.ga K "NoHand")) (.ref (He.ga K "Twice")) = some false) ∧ (PySem.W.subIn K (.ref (He.ga K "NoHand")) (.type "ValueError") = some true) ∧ (PySem.W.keepIn K (.ref (He.ga K "NoThing")) = true) ∧ (PySem.W.excIn K (He.ga K "NoThing") [.type "ValueError", .type "Exception", .type "BaseException", .type "object"] "ValueError.__new__" = true) ∧ (PySem.W.subIn K (.ref (He.ga K "NoThing")) (.type "BaseException") = some true) ∧ (PySem.W.typeIn K (.ref (He.ga K "NoThing")) = some (.type "type")) ∧ (PySem.W.findIn K (.ref (He.ga K "NoThing")) "__getattribute__" = some (some (.builtin "BaseException.__getattribute__"))) ∧ (PySem.W.findIn K (.ref (He.ga K "NoThing")) "__getattr__" = some none) ∧ (PySem.W.hasDictIn K (He.ga K "NoThing") = true) ∧ (PySem.W.findIn K (.ref (He.ga K "NoThing")) "__class__" = some (some (.builtin "object.__class__"))) ∧ (PySem.W.mroIn K (He.ga K "NoThing") (.type "object") = some true) ∧ (PySem.W.subIn K (.ref (He.ga K "NoThing")) (.ref (He.ga K "EnvyError")) = some true) ∧ (PySem.W.subIn K (.ref (He.ga K "NoThing")) (.ref (He.ga K "Held")) = some false) ∧ (PySem.W.subIn K (.ref (He.ga K "NoThing")) (.ref (He.ga K "NoDealer")) = some false) ∧ (PySem.W.subIn K (.ref (He.ga K "NoThing")) (.ref (He.ga K "NoHand")) = some false) ∧ (PySem.W.subIn K (.ref (He.ga K "NoThing")) (.ref (He.ga K "NoName")) = some false) := of_decide_eq_true h
def cK6 (K : PySem.W.Frag) : Bool := decide ((PySem.W.subIn K (.ref (He.ga K "NoThing")) (.ref (He.ga K "NoNumber")) = some false) ∧ (PySem.W.subIn K (.ref (He.ga K "NoThing")) (.ref (He.ga K "NoOrder")) = some false) ∧ (PySem.W.subIn K (.ref (He.ga K "NoThing")) (.ref (He.ga K "NoRing")) = some false) ∧ (PySem.W.subIn K (.ref (He.ga K "NoThing")) (.ref (He.ga K "NoRow")) = some false) ∧ (PySem.W.subIn K (.ref (He.ga K "NoThing")) (.ref (He.ga K "NoThing")) = some true) ∧ (PySem.W.subIn K (.ref (He.ga K "NoThing")) (.ref (He.ga K "NoWeights")) = some false) ∧ (PySem.W.subIn K (.ref (He.ga K "NoThing")) (.ref (He.ga K "NotFair")) = some false) ∧ (PySem.W.subIn K (.ref (He.ga K "NoThing")) (.ref (He.ga K "NotTwo")) = some false) ∧ (PySem.W.subIn K (.ref (He.ga K "NoThing")) (.ref (He.ga K "TooMany")) = some false) ∧ (PySem.W.subIn K (.ref (He.ga K "NoThing")) (.ref (He.ga K "Twice")) = some false) ∧ (PySem.W.subIn K (.ref (He.ga K "NoThing")) (.type "ValueError") = some true) ∧ (PySem.W.subIn K (.ref (He.ga K "EnvyError")) (.type "BaseException") = some true) ∧ (PySem.W.typeIn K (.ref (He.ga K "EnvyError")) = some (.type "type")) ∧ (PySem.W.hasDictIn K (He.ga K "EnvyError") = true) ∧ (PySem.W.subIn K (.ref (He.ga K "NoDealer")) (.type "BaseException") = some true) ∧ (PySem.W.typeIn K (.ref (He.ga K "NoDealer")) = some (.type "type")))
theorem cK6_ok {K : PySem.W.Frag} (h : cK6 K = true) : (PySem.W.subIn K (.ref (He.ga K "NoThing")) (.ref (He.ga K "NoNumber")) = some false) ∧ (PySem.W.subIn K (.ref (He.ga K "NoThing")) (.ref (He.ga K "NoOrder")) = some false) ∧ (PySem.W.subIn K (.ref (He.ga K "NoThing")) (.ref (He.ga K "NoRing")) = some false) ∧ (PySem.W.subIn K (.ref (He.ga K "NoThing")) (.ref (He.ga K "NoRow")) = some false) ∧ (PySem.W.subIn K (.ref (He.ga K "NoThing")) (.ref (He.ga K "NoThing")) = some true) ∧ (PySem.W.subIn K (.ref (He.ga K "NoThing")) (.ref (He.ga K "NoWeights")) = some false) ∧ (PySem.W.subIn K (.ref (He.ga K "NoThing")) (.ref (He.ga K "NotFair")) = some false) ∧ (PySem.W.subIn K (.ref (He.ga K "NoThing")) (.ref (He.ga K "NotTwo")) = some false) ∧ (PySem.W.subIn K (.ref (He.ga K "NoThing")) (.ref (He.ga K "TooMany")) = some false) ∧ (PySem.W.subIn K (.ref (He.ga K "NoThing")) (.ref (He.ga K "Twice")) = some false) ∧ (PySem.W.subIn K (.ref (He.ga K "NoThing")) (.type "ValueError") = some true) ∧ (PySem.W.subIn K (.ref (He.ga K "EnvyError")) (.type "BaseException") = some true) ∧ (PySem.W.typeIn K (.ref (He.ga K "EnvyError")) = some (.type "type")) ∧ (PySem.W.hasDictIn K (He.ga K "EnvyError") = true) ∧ (PySem.W.subIn K (.ref (He.ga K "NoDealer")) (.type "BaseException") = some true) ∧ (PySem.W.typeIn K (.ref (He.ga K "NoDealer")) = some (.type "type")) := of_decide_eq_true h
def cK7 (K : PySem.W.Frag) : Bool := decide ((PySem.W.hasDictIn K (He.ga K "NoDealer") = true) ∧ (PySem.W.subIn K (.ref (He.ga K "NoName")) (.type "BaseException") = some true) ∧ (PySem.W.typeIn K (.ref (He.ga K "NoName")) = some (.type "type")) ∧ (PySem.W.hasDictIn K (He.ga K "NoName") = true) ∧ (PySem.W.subIn K (.ref (He.ga K "NoNumber")) (.type "BaseException") = some true) ∧ (PySem.W.typeIn K (.ref (He.ga K "NoNumber")) = some (.type "type")) ∧ (PySem.W.hasDictIn K (He.ga K "NoNumber") = true) ∧ (PySem.W.subIn K (.ref (He.ga K "NoOrder")) (.type "BaseException") = some true) ∧ (PySem.W.typeIn K (.ref (He.ga K "NoOrder")) = some (.type "type")) ∧ (PySem.W.hasDictIn K (He.ga K "NoOrder") = true) ∧ (PySem.W.subIn K (.ref (He.ga K "NoRing")) (.type "BaseException") = some true) ∧ (PySem.W.typeIn K (.ref (He.ga K "NoRing")) = some (.type "type")) ∧ (PySem.W.hasDictIn K (He.ga K "NoRing") = true) ∧ (PySem.W.subIn K (.ref (He.ga K "NoRow")) (.type "BaseException") = some true) ∧ (PySem.W.typeIn K (.ref (He.ga K "NoRow")) = some (.type "type")) ∧ (PySem.W.hasDictIn K (He.ga K "NoRow") = true))
theorem cK7_ok {K : PySem.W.Frag} (h : cK7 K = true) : (PySem.W.hasDictIn K (He.ga K "NoDealer") = true) ∧ (PySem.W.subIn K (.ref (He.ga K "NoName")) (.type "BaseException") = some true) ∧ (PySem.W.typeIn K (.ref (He.ga K "NoName")) = some (.type "type")) ∧ (PySem.W.hasDictIn K (He.ga K "NoName") = true) ∧ (PySem.W.subIn K (.ref (He.ga K "NoNumber")) (.type "BaseException") = some true) ∧ (PySem.W.typeIn K (.ref (He.ga K "NoNumber")) = some (.type "type")) ∧ (PySem.W.hasDictIn K (He.ga K "NoNumber") = true) ∧ (PySem.W.subIn K (.ref (He.ga K "NoOrder")) (.type "BaseException") = some true) ∧ (PySem.W.typeIn K (.ref (He.ga K "NoOrder")) = some (.type "type")) ∧ (PySem.W.hasDictIn K (He.ga K "NoOrder") = true) ∧ (PySem.W.subIn K (.ref (He.ga K "NoRing")) (.type "BaseException") = some true) ∧ (PySem.W.typeIn K (.ref (He.ga K "NoRing")) = some (.type "type")) ∧ (PySem.W.hasDictIn K (He.ga K "NoRing") = true) ∧ (PySem.W.subIn K (.ref (He.ga K "NoRow")) (.type "BaseException") = some true) ∧ (PySem.W.typeIn K (.ref (He.ga K "NoRow")) = some (.type "type")) ∧ (PySem.W.hasDictIn K (He.ga K "NoRow") = true) := of_decide_eq_true h
def cK8 (K : PySem.W.Frag) : Bool := decide ((PySem.W.subIn K (.ref (He.ga K "NoWeights")) (.type "BaseException") = some true) ∧ (PySem.W.typeIn K (.ref (He.ga K "NoWeights")) = some (.type "type")) ∧ (PySem.W.hasDictIn K (He.ga K "NoWeights") = true) ∧ (PySem.W.subIn K (.ref (He.ga K "NotFair")) (.type "BaseException") = some true) ∧ (PySem.W.typeIn K (.ref (He.ga K "NotFair")) = some (.type "type")) ∧ (PySem.W.hasDictIn K (He.ga K "NotFair") = true) ∧ (PySem.W.subIn K (.ref (He.ga K "NotTwo")) (.type "BaseException") = some true) ∧ (PySem.W.typeIn K (.ref (He.ga K "NotTwo")) = some (.type "type")) ∧ (PySem.W.hasDictIn K (He.ga K "NotTwo") = true) ∧ (PySem.W.subIn K (.ref (He.ga K "TooMany")) (.type "BaseException") = some true) ∧ (PySem.W.typeIn K (.ref (He.ga K "TooMany")) = some (.type "type")) ∧ (PySem.W.hasDictIn K (He.ga K "TooMany") = true) ∧ (PySem.W.subIn K (.ref (He.ga K "Twice")) (.type "BaseException") = some true) ∧ (PySem.W.typeIn K (.ref (He.ga K "Twice")) = some (.type "type")) ∧ (PySem.W.hasDictIn K (He.ga K "Twice") = true) ∧ (PySem.W.findIn K (.ref (He.ga K "Held")) "__init__" = some (some (.ref (He.fAd K ("Held", some "__init__"))))))
theorem cK8_ok {K : PySem.W.Frag} (h : cK8 K = true) : (PySem.W.subIn K (.ref (He.ga K "NoWeights")) (.type "BaseException") = some true) ∧ (PySem.W.typeIn K (.ref (He.ga K "NoWeights")) = some (.type "type")) ∧ (PySem.W.hasDictIn K (He.ga K "NoWeights") = true) ∧ (PySem.W.subIn K (.ref (He.ga K "NotFair")) (.type "BaseException") = some true) ∧ (PySem.W.typeIn K (.ref (He.ga K "NotFair")) = some (.type "type")) ∧ (PySem.W.hasDictIn K (He.ga K "NotFair") = true) ∧ (PySem.W.subIn K (.ref (He.ga K "NotTwo")) (.type "BaseException") = some true) ∧ (PySem.W.typeIn K (.ref (He.ga K "NotTwo")) = some (.type "type")) ∧ (PySem.W.hasDictIn K (He.ga K "NotTwo") = true) ∧ (PySem.W.subIn K (.ref (He.ga K "TooMany")) (.type "BaseException") = some true) ∧ (PySem.W.typeIn K (.ref (He.ga K "TooMany")) = some (.type "type")) ∧ (PySem.W.hasDictIn K (He.ga K "TooMany") = true) ∧ (PySem.W.subIn K (.ref (He.ga K "Twice")) (.type "BaseException") = some true) ∧ (PySem.W.typeIn K (.ref (He.ga K "Twice")) = some (.type "type")) ∧ (PySem.W.hasDictIn K (He.ga K "Twice") = true) ∧ (PySem.W.findIn K (.ref (He.ga K "Held")) "__init__" = some (some (.ref (He.fAd K ("Held", some "__init__"))))) := of_decide_eq_true h
def cK9 (K : PySem.W.Frag) : Bool := decide ((PySem.W.typeIn K (.ref (He.fAd K ("Held", some "__init__"))) = some (.type "function")) ∧ (oexB K (He.ga K "Held") = true) ∧ (PySem.W.findIn K (.ref (He.ga K "Held")) "__setattr__" = some (some (.builtin "object.__setattr__"))) ∧ (PySem.W.findIn K (.ref (He.ga K "Held")) "hand" = some none) ∧ (PySem.W.readsIn K (He.ga K "EnvyError") (.type "type") = true) ∧ (PySem.W.specialIn K (.ref (He.ga K "EnvyError")) "__getattribute__" = some (some (.builtin "type.__getattribute__"))) ∧ (veB K (He.ga K "EnvyError") = true) ∧ (PySem.W.specialIn K (.builtin "object.__class__") "__get__" = some (some (.builtin "getset_descriptor.__get__"))) ∧ (PySem.W.takesIn K (.builtin "object.__class__") = some true))
theorem cK9_ok {K : PySem.W.Frag} (h : cK9 K = true) : (PySem.W.typeIn K (.ref (He.fAd K ("Held", some "__init__"))) = some (.type "function")) ∧ (oexB K (He.ga K "Held") = true) ∧ (PySem.W.findIn K (.ref (He.ga K "Held")) "__setattr__" = some (some (.builtin "object.__setattr__"))) ∧ (PySem.W.findIn K (.ref (He.ga K "Held")) "hand" = some none) ∧ (PySem.W.readsIn K (He.ga K "EnvyError") (.type "type") = true) ∧ (PySem.W.specialIn K (.ref (He.ga K "EnvyError")) "__getattribute__" = some (some (.builtin "type.__getattribute__"))) ∧ (veB K (He.ga K "EnvyError") = true) ∧ (PySem.W.specialIn K (.builtin "object.__class__") "__get__" = some (some (.builtin "getset_descriptor.__get__"))) ∧ (PySem.W.takesIn K (.builtin "object.__class__") = some true) := of_decide_eq_true h
def ckA : List (PySem.W.Frag → Bool) := [cK0, cK1, cK2, cK3, cK4]
def ckB : List (PySem.W.Frag → Bool) := [cK5, cK6, cK7, cK8, cK9]
def ckL : List (PySem.W.Frag → Bool) := ckA ++ ckB
def dD0 : He.DefD := ⟨("things_of", none), "things_of", "things_of", defArgs (top 18), defBody (top 18), defScope (top 18), [], []⟩
def dD1 : He.DefD := ⟨("check_thing", none), "check_thing", "check_thing", defArgs (top 20), defBody (top 20), defScope (top 20), [], []⟩
def dD2 : He.DefD := ⟨("hands_of", none), "hands_of", "hands_of", defArgs (top 17), defBody (top 17), defScope (top 17), [], []⟩
def dD3 : He.DefD := ⟨("check_hand", none), "check_hand", "check_hand", defArgs (top 19), defBody (top 19), defScope (top 19), [], []⟩
def dD4 : He.DefD := ⟨("thing_given", none), "thing_given", "thing_given", defArgs (top 22), defBody (top 22), defScope (top 22), [], []⟩
def dD5 : He.DefD := ⟨("_law_told", none), "_law_told", "_law_told", defArgs (top 26), defBody (top 26), defScope (top 26), [], []⟩
def dD6 : He.DefD := ⟨("_law_far", none), "_law_far", "_law_far", defArgs (top 28), defBody (top 28), defScope (top 28), [], []⟩
def dD7 : He.DefD := ⟨("_law_cell_at", none), "_law_cell_at", "_law_cell_at", defArgs (top 24), defBody (top 24), defScope (top 24), [], []⟩
def dD8 : He.DefD := ⟨("_law_due", none), "_law_due", "_law_due", defArgs (top 27), defBody (top 27), defScope (top 27), [], []⟩
def dD9 : He.DefD := ⟨("law", none), "law", "law", defArgs (top 29), defBody (top 29), defScope (top 29), [], []⟩
def dD10 : He.DefD := ⟨("_law_others", none), "_law_others", "_law_others", defArgs (top 25), defBody (top 25), defScope (top 25), [], []⟩
def dD11 : He.DefD := ⟨("Held", some "__init__"), "__init__", "Held.__init__", defArgs ((inClass (top 4) 0)), defBody ((inClass (top 4) 0)), defScope ((inClass (top 4) 0)), [], []⟩
def fnA : List He.DefD := [dD0, dD1, dD2, dD3, dD4, dD5]
def fnB : List He.DefD := [dD6, dD7, dD8, dD9, dD10, dD11]
def fnL : List He.DefD := fnA ++ fnB
def nm0 : List PySem.Str := ["__name__", "EnvyError", "NoHand", "NoThing", "Held", "NotFair", "NoOrder", "NoRing", "NoWeights", "NotTwo", "TooMany", "NoDealer", "NoRow", "NoName", "Twice", "NoNumber", "hands_of", "things_of", "check_hand", "check_thing", "thing_given", "_law_cell_at", "_law_others", "_law_told", "_law_due"]
def nm1 : List PySem.Str := ["_law_far"]
def nmL : List PySem.Str := nm0 ++ nm1
def ad0 : List Addr := [2, 3, 15, 22, 23, 24, 25, 28, 35, 36, 37, 40, 47, 48, 49, 52, 59, 61, 62, 64, 65, 66, 67, 68, 71, 78, 80, 81, 83, 84, 85, 86, 87, 90, 97, 98, 99, 102, 109, 110]
def ad1 : List Addr := [111, 114, 121, 122, 123, 126, 133, 134, 135, 138, 145, 146, 147, 150, 157, 158, 159, 162, 169, 170, 171, 174, 181, 182, 183, 186, 193, 194, 195, 198, 205, 206, 207, 210, 212, 213, 215, 216, 217, 219]
def ad2 : List Addr := [220, 222, 223, 224, 226, 227, 229, 230, 231, 233, 234, 236, 237, 238, 240, 241, 243, 244, 245, 247, 248, 250, 251, 252, 254, 255, 257, 258, 259, 261, 262, 264, 265, 266, 268, 269, 271, 272, 273, 275]
def ad3 : List Addr := [276, 278, 279, 280, 283, 284]
def adL : List Addr := ad0 ++ ad1 ++ ad2 ++ ad3
abbrev hk : PySem.W.Hook := hookM adL ckL fnL
def hob (s : PySem.W.SharedT) : Bool × List He.FnW := obsMG adL ckL fnL (HandSHeadRun.getT s)
theorem hob_eq (s : PySem.W.SharedT) : hob s = hk.obs s.abs := obsMG_eq (HandSHeadRun.getT_eq s)
theorem hrunA (w : World) : HandSHeadRun.RunEq (PySem.W.OpenLaw.row PySem.Challenge.rw_leastenvy_k04_things_given) (PySem.W.view (PySem.W.OpenLaw.row PySem.Challenge.rw_leastenvy_k04_things_given).prog [29]) (hookM adL ckA fnA) (fun s => obsMG adL ckA fnA (HandSHeadRun.getT s)) 7330 nmL w := by
  intro os
  kernel_rfl
theorem hrunB (w : World) : HandSHeadRun.RunEq (PySem.W.OpenLaw.row PySem.Challenge.rw_leastenvy_k04_things_given) (PySem.W.view (PySem.W.OpenLaw.row PySem.Challenge.rw_leastenvy_k04_things_given).prog [29]) (hookM adL ckB fnB) (fun s => obsMG adL ckB fnB (HandSHeadRun.getT s)) 7330 nmL w := by
  intro os
  kernel_rfl
theorem hrun (w : World) : HandSHeadRun.RunEq (PySem.W.OpenLaw.row PySem.Challenge.rw_leastenvy_k04_things_given) (PySem.W.view (PySem.W.OpenLaw.row PySem.Challenge.rw_leastenvy_k04_things_given).prog [29]) hk hob 7330 nmL w := runEq_split (hrunA w) (hrunB w)
end Lk04
set_option Elab.async false
set_option linter.all false
set_option maxRecDepth 100000
set_option autoImplicit false
/-! data, cells, what represents what -/
namespace Lv
open PySem PySem.Spec PyProof.Rows L2
/-- plain data. scr: the script; ref n: the n-th cell of the store -/
inductive D where
  | non | bl (b : Bool) | int (i : Int) | str (x : Str)
  | scr (xs : List Int)
  | lst (b : Bool) (xs : List D)
  | tup (xs : List D)
  | ref (n : Nat)
  | dK (b : Bool) (kvs : List (Key × D))
  | dT (b : Bool) (kvs : List (List Key × D))
deriving Inhabited
inductive Mode where
  | live | lock | fz
deriving DecidableEq, Inhabited
/-- what may change: a list, a dict -/
inductive Cell where
  | lst (m : Mode) (xs : List D)
  | dK (m : Mode) (kvs : List (Key × D))
  | dT (m : Mode) (kvs : List (List Key × D))
  | lkT (kvs : List (List Key × D))
  | lkK (kvs : List (Key × D))
  | exn (cls : Str) (fs : List (Str × D))
  | ins (cls : Str) (fs : List (Str × D))
deriving Inhabited
structure Exn where
  cls : Str
  fs : List (Str × D)
abbrev Sto := List Cell
abbrev R (α : Type) := Option (Except (Exn × Sto) (α × Sto))
abbrev Env := List (Option D)
abbrev FE := Env → Sto → R D
abbrev FEs := Env → Sto → R (List D)
def pick (b : Bool) (B G : Hp) : Hp := match b with
  | true => B
  | false => G
section
variable (K : PySem.W.Frag) (B : Hp) (ρ : List Addr) (G : Hp)
mutual
def Rep : D → V → Prop
  | .non, v => v = .non
  | .bl b, v => v = .bl b
  | .int i, v => v = .int i
  | .str x, v => v = .str x
  | .scr xs, v => ∃ a, v = .ref a ∧ SqL K B a (xs.map V.int)
  | .lst b xs, v => ∃ a vs, v = .ref a ∧ pick b B G a = some (.lst vs) ∧ Reps xs vs
  | .tup xs, v => ∃ a vs, v = .ref a ∧ G a = some (.tup vs) ∧ Reps xs vs
  | .ref n, v => ∃ a, v = .ref a ∧ ρ[n]? = some a
  | .dK b kvs, v => ∃ a ws, v = .ref a ∧ pick b B G a = some (.dK ws) ∧ RepK kvs ws
  | .dT b kvs, v => ∃ a ws, v = .ref a ∧ pick b B G a = some (.dT ws) ∧ RepT kvs ws
def Reps : List D → List V → Prop
  | [], vs => vs = []
  | d :: ds, vs => ∃ v r, vs = v :: r ∧ Rep d v ∧ Reps ds r
def RepK : List (Key × D) → List (Key × V) → Prop
  | [], ws => ws = []
  | (k, d) :: r, ws => ∃ v s, ws = (k, v) :: s ∧ Rep d v ∧ RepK r s
def RepT : List (List Key × D) → List (List Key × V) → Prop
  | [], ws => ws = []
  | (k, d) :: r, ws => ∃ v s, ws = (k, v) :: s ∧ Rep d v ∧ RepT r s
end
end
def RepF (K : PySem.W.Frag) (B : Hp) (ρ : List Addr) (G : Hp) : List (Str × D) → List (Str × V) → Prop
  | [], ws => ws = []
  | (k, d) :: r, ws => ∃ v s, ws = (k, v) :: s ∧ Rep K B ρ G d v ∧ RepF K B ρ G r s
theorem pick_mono {b : Bool} {B G G' : Hp} {a : Addr} {o : HO} (e : Same G G') (h : pick b B G a = some o) : pick b B G' a = some o := by
  cases b with
  | true => exact h
  | false => exact e _ _ h
theorem pre_get {α : Type} {ρ ρ' : List α} {n : Nat} {a : α} (h : ρ <+: ρ') (e : ρ[n]? = some a) : ρ'[n]? = some a := by
  obtain ⟨t, rfl⟩ := h
  have hl := (List.getElem?_eq_some_iff.mp e).1
  rw [List.getElem?_append_left hl]
  exact e
section
variable {K : PySem.W.Frag} {B : Hp} {ρ ρ' : List Addr} {G G' : Hp}
mutual
theorem Rep.mono (p : ρ <+: ρ') (e : Same G G') : ∀ (d : D) (v : V), Rep K B ρ G d v → Rep K B ρ' G' d v
  | .non, _, h => h
  | .bl _, _, h => h
  | .int _, _, h => h
  | .str _, _, h => h
  | .scr _, _, h => h
  | .lst b xs, _, ⟨a, vs, e1, e2, h⟩ => ⟨a, vs, e1, pick_mono e e2, Reps.mono p e xs vs h⟩
  | .tup xs, _, ⟨a, vs, e1, e2, h⟩ => ⟨a, vs, e1, e _ _ e2, Reps.mono p e xs vs h⟩
  | .ref n, _, ⟨a, e1, e2⟩ => ⟨a, e1, pre_get p e2⟩
  | .dK b kvs, _, ⟨a, ws, e1, e2, h⟩ => ⟨a, ws, e1, pick_mono e e2, RepK.mono p e kvs ws h⟩
  | .dT b kvs, _, ⟨a, ws, e1, e2, h⟩ => ⟨a, ws, e1, pick_mono e e2, RepT.mono p e kvs ws h⟩
theorem Reps.mono (p : ρ <+: ρ') (e : Same G G') : ∀ (ds : List D) (vs : List V), Reps K B ρ G ds vs → Reps K B ρ' G' ds vs
  | [], _, h => h
  | d :: ds, _, ⟨v, r, e1, h1, h2⟩ => ⟨v, r, e1, Rep.mono p e d v h1, Reps.mono p e ds r h2⟩
theorem RepK.mono (p : ρ <+: ρ') (e : Same G G') : ∀ (ds : List (Key × D)) (vs : List (Key × V)), RepK K B ρ G ds vs → RepK K B ρ' G' ds vs
  | [], _, h => h
  | (_, d) :: ds, _, ⟨v, r, e1, h1, h2⟩ => ⟨v, r, e1, Rep.mono p e d v h1, RepK.mono p e ds r h2⟩
theorem RepT.mono (p : ρ <+: ρ') (e : Same G G') : ∀ (ds : List (List Key × D)) (vs : List (List Key × V)), RepT K B ρ G ds vs → RepT K B ρ' G' ds vs
  | [], _, h => h
  | (_, d) :: ds, _, ⟨v, r, e1, h1, h2⟩ => ⟨v, r, e1, Rep.mono p e d v h1, RepT.mono p e ds r h2⟩
end
theorem RepF.mono (p : ρ <+: ρ') (e : Same G G') : ∀ (ds : List (Str × D)) (vs : List (Str × V)), RepF K B ρ G ds vs → RepF K B ρ' G' ds vs
  | [], _, h => h
  | (_, d) :: ds, _, ⟨v, r, e1, h1, h2⟩ => ⟨v, r, e1, Rep.mono p e d v h1, RepF.mono p e ds r h2⟩
theorem RepF.length : ∀ {ds : List (Str × D)} {vs : List (Str × V)}, RepF K B ρ G ds vs → ds.length = vs.length
  | [], _, h => by cases h; rfl
  | (_, d) :: ds, _, ⟨v, r, e1, _, h⟩ => by rw [e1, List.length_cons, List.length_cons, RepF.length h]
theorem RepF.get : ∀ {ds : List (Str × D)} {vs : List (Str × V)} {f : Str} {d : D}, RepF K B ρ G ds vs → ds.lookup f = some d → ∃ v, vs.lookup f = some v ∧ Rep K B ρ G d v
  | [], _, _, _, _, e => by simp at e
  | (k, x) :: ds, _, f, d, ⟨v, r, e1, h1, h⟩, e => by
    subst e1
    rw [List.lookup_cons] at e ⊢
    cases q : f == k with
    | true =>
      rw [q] at e
      cases e
      exact ⟨v, rfl, h1⟩
    | false =>
      rw [q] at e
      exact RepF.get h e
theorem RepF.none : ∀ {ds : List (Str × D)} {vs : List (Str × V)} {f : Str}, RepF K B ρ G ds vs → ds.lookup f = none → vs.lookup f = none
  | [], _, _, h, _ => by cases h; rfl
  | (k, x) :: ds, _, f, ⟨v, r, e1, h1, h⟩, e => by
    subst e1
    rw [List.lookup_cons] at e ⊢
    cases q : f == k with
    | true =>
      rw [q] at e
      cases e
    | false =>
      rw [q] at e
      exact RepF.none h e
/-- a field stored -/
def fput (f : Str) (v : D) : List (Str × D) → List (Str × D)
  | [] => [(f, v)]
  | (g, x) :: r => if g = f then (g, v) :: r else (g, x) :: fput f v r
theorem RepF.put {f : Str} {d : D} {v : V} (hv : Rep K B ρ G d v) : ∀ {ds : List (Str × D)} {vs : List (Str × V)}, RepF K B ρ G ds vs → RepF K B ρ G (fput f d ds) (putF f v vs)
  | [], _, h => by cases h; exact ⟨v, [], rfl, hv, rfl⟩
  | (k, x) :: ds, _, ⟨u, r, e1, h1, h⟩ => by
    subst e1
    unfold fput putF
    by_cases q : k = f
    · rw [if_pos q, if_pos q]
      exact ⟨v, r, rfl, hv, h⟩
    · rw [if_neg q, if_neg q]
      exact ⟨u, _, rfl, h1, RepF.put hv h⟩
theorem fput_keys {f : Str} {d : D} : ∀ {ds : List (Str × D)} {g : Str}, g ∈ (fput f d ds).map (·.1) → g = f ∨ g ∈ ds.map (·.1)
  | [], g, h => by
    have : g = f := by simpa [fput] using h
    exact .inl this
  | (k, x) :: ds, g, h => by
    unfold fput at h
    by_cases q : k = f
    · rw [if_pos q] at h
      exact .inr h
    · rw [if_neg q, List.map_cons] at h
      rcases List.mem_cons.mp h with e | e
      · rw [e]
        exact .inr List.mem_cons_self
      · rcases fput_keys e with z | z
        · exact .inl z
        · exact .inr (List.mem_cons_of_mem _ z)
theorem Reps.length : ∀ {ds : List D} {vs : List V}, Reps K B ρ G ds vs → ds.length = vs.length
  | [], _, h => by cases h; rfl
  | d :: ds, _, ⟨v, r, e1, _, h⟩ => by rw [e1, List.length_cons, List.length_cons, Reps.length h]
theorem Reps.get : ∀ {ds : List D} {vs : List V} {i : Nat} {d : D}, Reps K B ρ G ds vs → ds[i]? = some d → ∃ v, vs[i]? = some v ∧ Rep K B ρ G d v
  | [], _, _, _, _, e => by simp at e
  | d :: ds, _, 0, _, ⟨v, r, e1, h1, _⟩, e => by
    simp at e
    subst e e1
    exact ⟨v, rfl, h1⟩
  | d :: ds, _, i + 1, x, ⟨v, r, e1, _, h⟩, e => by
    subst e1
    obtain ⟨u, q1, q2⟩ := Reps.get (i := i) (d := x) h (by simpa using e)
    exact ⟨u, by simpa using q1, q2⟩
theorem Reps.append : ∀ {ds es : List D} {vs us : List V}, Reps K B ρ G ds vs → Reps K B ρ G es us → Reps K B ρ G (ds ++ es) (vs ++ us)
  | [], _, _, _, h, h' => by
    cases h
    exact h'
  | d :: ds, es, _, us, ⟨v, r, e1, h1, h⟩, h' => by
    subst e1
    exact ⟨v, r ++ us, rfl, h1, Reps.append h h'⟩
theorem Reps.nil : Reps K B ρ G [] [] := rfl
theorem Reps.cons {d : D} {v : V} {ds : List D} {vs : List V} (h : Rep K B ρ G d v) (t : Reps K B ρ G ds vs) : Reps K B ρ G (d :: ds) (v :: vs) := ⟨v, vs, rfl, h, t⟩
theorem Reps.one {d : D} {v : V} (h : Rep K B ρ G d v) : Reps K B ρ G [d] [v] := .cons h .nil
theorem Reps.take : ∀ {ds : List D} {vs : List V} (n : Nat), Reps K B ρ G ds vs → Reps K B ρ G (ds.take n) (vs.take n)
  | _, _, 0, _ => rfl
  | [], _, n + 1, h => by cases h; rfl
  | d :: ds, _, n + 1, ⟨v, r, e1, h1, h⟩ => by
    subst e1
    exact ⟨v, r.take n, rfl, h1, Reps.take n h⟩
theorem Reps.drop : ∀ {ds : List D} {vs : List V} (n : Nat), Reps K B ρ G ds vs → Reps K B ρ G (ds.drop n) (vs.drop n)
  | _, _, 0, h => h
  | [], _, n + 1, h => by cases h; rfl
  | d :: ds, _, n + 1, ⟨v, r, e1, _, h⟩ => by
    subst e1
    exact Reps.drop n h
theorem Reps.set : ∀ {ds : List D} {vs : List V} {d : D} {v : V} (i : Nat), Rep K B ρ G d v → Reps K B ρ G ds vs → Reps K B ρ G (ds.set i d) (vs.set i v)
  | [], _, _, _, _, _, h => by cases h; rfl
  | x :: ds, _, d, v, 0, hd, ⟨u, r, e1, _, h⟩ => by
    subst e1
    exact ⟨v, r, rfl, hd, h⟩
  | x :: ds, _, d, v, i + 1, hd, ⟨u, r, e1, h1, h⟩ => by
    subst e1
    exact ⟨u, r.set i v, rfl, h1, Reps.set i hd h⟩
theorem Reps.eraseIdx : ∀ {ds : List D} {vs : List V} (i : Nat), Reps K B ρ G ds vs → Reps K B ρ G (ds.eraseIdx i) (vs.eraseIdx i)
  | [], _, _, h => by cases h; rfl
  | x :: ds, _, 0, ⟨u, r, e1, _, h⟩ => by
    subst e1
    exact h
  | x :: ds, _, i + 1, ⟨u, r, e1, h1, h⟩ => by
    subst e1
    exact ⟨u, r.eraseIdx i, rfl, h1, Reps.eraseIdx i h⟩
theorem Reps.reverse : ∀ {ds : List D} {vs : List V}, Reps K B ρ G ds vs → Reps K B ρ G ds.reverse vs.reverse
  | [], _, h => by cases h; rfl
  | x :: ds, _, ⟨u, r, e1, h1, h⟩ => by
    subst e1
    rw [List.reverse_cons, List.reverse_cons]
    exact (Reps.reverse h).append (.one h1)
theorem Reps.replicate {d : D} {v : V} (h : Rep K B ρ G d v) : ∀ (n : Nat), Reps K B ρ G (List.replicate n d) (List.replicate n v)
  | 0 => rfl
  | n + 1 => by
    rw [List.replicate_succ, List.replicate_succ]
    exact .cons h (Reps.replicate h n)
theorem Reps.ints {xs : List Int} : Reps K B ρ G (xs.map D.int) (xs.map V.int) := by
  induction xs with
  | nil => rfl
  | cons x r ih => exact .cons rfl ih
end
/-- the code's surroundings: the written part, the module's names; B: the heap ahead of the call; G0: what nobody changes, at the entry; P: what stands still now -/
structure Ct where
  K : PySem.W.Frag
  mg : Str → Option Value
  B : Hp
  G0 : Hp
  P : Hp
  L : Hp
/-- a plain datum's value -/
def vS : D → V
  | .bl b => .bl b
  | .int i => .int i
  | .str x => .str x
  | _ => .non
def scalD : D → Bool
  | .non => true
  | .bl _ => true
  | .int _ => true
  | .str _ => true
  | _ => false
/-- an exception's fields as its dict tells them -/
def vFs (fs : List (Str × D)) : List (Str × V) := fs.map fun p => (p.1, vS p.2)
/-- at a: an exception that somebody made and keeps -/
def ExnAt (K : PySem.W.Frag) (mg : Str → Option Value) (G : Hp) (cls : Str) (fs : List (Str × D)) (a : Addr) : Prop := ∃ (C dx : Addr), mg cls = some (.ref C) ∧ XfC K C ∧ (∀ f ∈ fs.map (·.1), PySem.W.findIn K (.ref C) f = some none) ∧ (∀ p ∈ fs, scalD p.2 = true) ∧ G a = some (exo a C (some dx)) ∧ G dx = some (exd dx (vFs fs))
theorem ExnAt.up {K : PySem.W.Frag} {mg : Str → Option Value} {G G' : Hp} {cls : Str} {fs : List (Str × D)} {a : Addr} (e : Same G G') (h : ExnAt K mg G cls fs a) : ExnAt K mg G' cls fs a := by
  obtain ⟨C, dx, h1, h2, h3, h4, h5, h6⟩ := h
  exact ⟨C, dx, h1, h2, h3, h4, e _ _ h5, e _ _ h6⟩
def CellOk (c : Ct) (ρ : List Addr) (G H : Hp) : Cell → Addr → Prop
  | .lst .fz xs, a => ∃ vs, G a = some (.lst vs) ∧ Reps c.K c.B ρ G xs vs
  | .lst _ xs, a => c.B a = none ∧ G a = none ∧ ∃ vs, H a = some (.lst vs) ∧ Reps c.K c.B ρ G xs vs
  | .dK .fz kvs, a => ∃ ws, G a = some (.dK ws) ∧ RepK c.K c.B ρ G kvs ws
  | .dK _ kvs, a => c.B a = none ∧ G a = none ∧ ∃ ws, H a = some (.dK ws) ∧ RepK c.K c.B ρ G kvs ws
  | .dT .fz kvs, a => ∃ ws, G a = some (.dT ws) ∧ RepT c.K c.B ρ G kvs ws
  | .dT _ kvs, a => c.B a = none ∧ G a = none ∧ ∃ ws, H a = some (.dT ws) ∧ RepT c.K c.B ρ G kvs ws
  | .lkT kvs, a => c.B a = none ∧ G a = none ∧ ∃ ws od, c.L a = some (.frz od (.dT ws)) ∧ H a = some (.frz od (.dT ws)) ∧ RepT c.K c.B ρ G kvs ws
  | .lkK kvs, a => c.B a = none ∧ G a = none ∧ ∃ ws od, c.L a = some (.frz od (.dK ws)) ∧ H a = some (.frz od (.dK ws)) ∧ RepK c.K c.B ρ G kvs ws
  | .exn cls fs, a => ExnAt c.K c.mg G cls fs a
  | .ins cls fs, a => c.B a = none ∧ G a = none ∧ ∃ C dx ws, c.mg cls = some (.ref C) ∧ Cls c.K C ∧ (∀ f ∈ fs.map (·.1), NoAttr c.K C f) ∧ H a = some (.ins C dx ws) ∧ RepF c.K c.B ρ G fs ws
structure Rel (c : Ct) (ρ : List Addr) (G : Hp) (μ : Sto) (H : Hp) : Prop where
  gh : Same G H
  bh : Same c.B H
  ph : Same c.P H
  tp : ∀ a vs, H a = some (.tup vs) → G a = some (.tup vs)
  g0 : Same c.G0 G
  nw : ∀ a o, G a = some o → c.G0 a = some o ∨ c.B a = none
  gp : ∀ a o, c.P a = some o → G a = none ∧ a ∉ ρ ∧ c.B a = none
  ln : ρ.length = μ.length
  nd : ρ.Nodup
  cl : ∀ (n : Nat) (a : Addr) (x : Cell), ρ[n]? = some a → μ[n]? = some x → CellOk c ρ G H x a
theorem CellOk.mono {c : Ct} {ρ ρ' : List Addr} {G G' H H' : Hp} {a : Addr} (p : ρ <+: ρ') (e : Same G G') (hn : G a = none → c.B a = none → ∀ o, H a = some o → G' a = none ∧ H' a = some o) : ∀ {x : Cell}, CellOk c ρ G H x a → CellOk c ρ' G' H' x a
  | .lst .fz xs, ⟨vs, h1, h2⟩ => ⟨vs, e _ _ h1, h2.mono p e⟩
  | .lst .live xs, ⟨hb, h0, vs, h1, h2⟩ => ⟨hb, (hn h0 hb _ h1).1, vs, (hn h0 hb _ h1).2, h2.mono p e⟩
  | .lst .lock xs, ⟨hb, h0, vs, h1, h2⟩ => ⟨hb, (hn h0 hb _ h1).1, vs, (hn h0 hb _ h1).2, h2.mono p e⟩
  | .dK .fz xs, ⟨vs, h1, h2⟩ => ⟨vs, e _ _ h1, h2.mono p e⟩
  | .dK .live xs, ⟨hb, h0, vs, h1, h2⟩ => ⟨hb, (hn h0 hb _ h1).1, vs, (hn h0 hb _ h1).2, h2.mono p e⟩
  | .dK .lock xs, ⟨hb, h0, vs, h1, h2⟩ => ⟨hb, (hn h0 hb _ h1).1, vs, (hn h0 hb _ h1).2, h2.mono p e⟩
  | .dT .fz xs, ⟨vs, h1, h2⟩ => ⟨vs, e _ _ h1, h2.mono p e⟩
  | .dT .live xs, ⟨hb, h0, vs, h1, h2⟩ => ⟨hb, (hn h0 hb _ h1).1, vs, (hn h0 hb _ h1).2, h2.mono p e⟩
  | .dT .lock xs, ⟨hb, h0, vs, h1, h2⟩ => ⟨hb, (hn h0 hb _ h1).1, vs, (hn h0 hb _ h1).2, h2.mono p e⟩
  | .lkT xs, ⟨hb, h0, vs, od, hL, h1, h2⟩ => ⟨hb, (hn h0 hb _ h1).1, vs, od, hL, (hn h0 hb _ h1).2, h2.mono p e⟩
  | .lkK xs, ⟨hb, h0, vs, od, hL, h1, h2⟩ => ⟨hb, (hn h0 hb _ h1).1, vs, od, hL, (hn h0 hb _ h1).2, h2.mono p e⟩
  | .exn cls fs, h => ExnAt.up e h
  | .ins cls fs, ⟨hb, h0, C, dx, ws, q1, q2, q3, h1, h2⟩ => ⟨hb, (hn h0 hb _ h1).1, C, dx, ws, q1, q2, q3, (hn h0 hb _ h1).2, h2.mono p e⟩
/-- what a live or locked cell knows -/
theorem CellOk.there {c : Ct} {ρ : List Addr} {G H : Hp} {a : Addr} (e : Same G H) : ∀ {x : Cell}, CellOk c ρ G H x a → ∃ o, H a = some o
  | .lst .fz xs, ⟨vs, h1, h2⟩ => ⟨_, e _ _ h1⟩
  | .lst .live xs, ⟨hb, h0, vs, h1, h2⟩ => ⟨_, h1⟩
  | .lst .lock xs, ⟨hb, h0, vs, h1, h2⟩ => ⟨_, h1⟩
  | .dK .fz xs, ⟨vs, h1, h2⟩ => ⟨_, e _ _ h1⟩
  | .dK .live xs, ⟨hb, h0, vs, h1, h2⟩ => ⟨_, h1⟩
  | .dK .lock xs, ⟨hb, h0, vs, h1, h2⟩ => ⟨_, h1⟩
  | .dT .fz xs, ⟨vs, h1, h2⟩ => ⟨_, e _ _ h1⟩
  | .dT .live xs, ⟨hb, h0, vs, h1, h2⟩ => ⟨_, h1⟩
  | .dT .lock xs, ⟨hb, h0, vs, h1, h2⟩ => ⟨_, h1⟩
  | .lkT xs, ⟨hb, h0, vs, od, hL, h1, h2⟩ => ⟨_, h1⟩
  | .lkK xs, ⟨hb, h0, vs, od, hL, h1, h2⟩ => ⟨_, h1⟩
  | .exn cls fs, ⟨C, dx, h1, h2, h3, h4, h5, h6⟩ => ⟨_, e _ _ h5⟩
  | .ins cls fs, ⟨hb, h0, C, dx, ws, q1, q2, q3, h1, h2⟩ => ⟨_, h1⟩
theorem same_upd {H : Hp} {p : Addr} {o : HO} (h : H p = none) : Same H (upd H p o) := fun b x e => by
  rw [upd_ne (ne_of_none e h)]
  exact e
section
variable {c : Ct} {ρ : List Addr} {G H : Hp} {μ : Sto} {p : Addr} {o : HO}
theorem Rel.none_g (r : Rel c ρ G μ H) (h : H p = none) : G p = none := r.gh.free h
theorem Rel.none_b (r : Rel c ρ G μ H) (h : H p = none) : c.B p = none := r.bh.free h
theorem Rel.none_p (r : Rel c ρ G μ H) (h : H p = none) : c.P p = none := r.ph.free h
theorem Rel.none_r (r : Rel c ρ G μ H) (h : H p = none) : p ∉ ρ := fun hm => by
  obtain ⟨n, hn, e⟩ := List.getElem_of_mem hm
  have e' : ρ[n]? = some p := by rw [List.getElem?_eq_getElem hn, e]
  have hm' : n < μ.length := by rw [← r.ln]; exact hn
  obtain ⟨o, q⟩ := (r.cl n p _ e' (List.getElem?_eq_getElem hm')).there r.gh
  rw [h] at q
  cases q
/-- a new object that nobody changes -/
theorem Rel.frozen (r : Rel c ρ G μ H) (h : H p = none) : Rel c ρ (upd G p o) μ (upd H p o) := by
  have hg := r.none_g h
  refine ⟨fun a x e => ?_, r.bh.trans (same_upd h), r.ph.trans (same_upd h), fun a vs e => ?_, r.g0.trans (same_upd hg), fun a x e => ?_, fun a x e => ?_, r.ln, r.nd, fun n a x e1 e2 => ?_⟩
  · by_cases q : a = p
    · subst q
      rw [upd_same] at e ⊢
      exact e
    · rw [upd_ne q] at e ⊢
      exact r.gh _ _ e
  · by_cases q : a = p
    · subst q
      rw [upd_same] at e ⊢
      exact e
    · rw [upd_ne q] at e ⊢
      exact r.tp _ _ e
  · by_cases q : a = p
    · subst q
      exact .inr (r.none_b h)
    · rw [upd_ne q] at e
      exact r.nw _ _ e
  · obtain ⟨q1, q2, q3⟩ := r.gp a x e
    have ne : a ≠ p := fun z => by
      subst z
      rw [r.none_p h] at e
      cases e
    exact ⟨by rw [upd_ne ne]; exact q1, q2, q3⟩
  · refine (r.cl n a x e1 e2).mono (List.prefix_refl _) (same_upd hg) fun g0 b0 o' q => ?_
    have ne : a ≠ p := ne_of_none q h
    exact ⟨by rw [upd_ne ne]; exact g0, by rw [upd_ne ne]; exact q⟩
theorem rep_upd {K : PySem.W.Frag} {B : Hp} {ρ : List Addr} {G : Hp} {xs : List D} {vs : List V} {p : Addr} (h : G p = none) (q : Reps K B ρ G xs vs) : Rep K B ρ (upd G p (.lst vs)) (.lst false xs) (.ref p) :=
  ⟨p, vs, rfl, upd_same, q.mono (List.prefix_refl _) (same_upd h)⟩
theorem rep_updT {K : PySem.W.Frag} {B : Hp} {ρ : List Addr} {G : Hp} {xs : List D} {vs : List V} {p : Addr} (h : G p = none) (q : Reps K B ρ G xs vs) : Rep K B ρ (upd G p (.tup vs)) (.tup xs) (.ref p) :=
  ⟨p, vs, rfl, upd_same, q.mono (List.prefix_refl _) (same_upd h)⟩
/-- a new cell -/
theorem Rel.cell (r : Rel c ρ G μ H) (h : H p = none) {x : Cell} (ht : ∀ vs, o ≠ .tup vs) (hx : CellOk c (ρ ++ [p]) G (upd H p o) x p) : Rel c (ρ ++ [p]) G (μ ++ [x]) (upd H p o) := by
  have hg := r.none_g h
  refine ⟨r.gh.trans (same_upd h), r.bh.trans (same_upd h), r.ph.trans (same_upd h), fun a vs e => ?_, r.g0, r.nw, fun a u e => ?_, by rw [List.length_append, List.length_append, r.ln]; rfl, ?_, fun n a y e1 e2 => ?_⟩
  · by_cases q : a = p
    · subst q
      rw [upd_same] at e
      exact absurd (Option.some.inj e) (ht vs)
    · rw [upd_ne q] at e
      exact r.tp _ _ e
  · obtain ⟨q1, q2, q3⟩ := r.gp a u e
    refine ⟨q1, fun hm => ?_, q3⟩
    rcases List.mem_append.mp hm with z | z
    · exact q2 z
    · have z' : a = p := by simpa using z
      subst z'
      rw [r.none_p h] at e
      cases e
  · refine List.nodup_append.mpr ⟨r.nd, by simp, fun a ha b hb z => ?_⟩
    have z' : b = p := by simpa using hb
    subst z' z
    exact r.none_r h ha
  · by_cases hn : n < ρ.length
    · rw [List.getElem?_append_left hn] at e1
      rw [List.getElem?_append_left (by rw [← r.ln]; exact hn)] at e2
      refine (r.cl n a y e1 e2).mono (List.prefix_append _ _) (Same.refl _) fun g0 b0 o' q => ?_
      exact ⟨g0, by rw [upd_ne (ne_of_none q h)]; exact q⟩
    · have hn' : n = ρ.length := by
        have := (List.getElem?_eq_some_iff.mp e1).1
        rw [List.length_append, List.length_singleton] at this
        omega
      subst hn'
      rw [List.getElem?_append_right (Nat.le_refl _), Nat.sub_self] at e1
      rw [List.getElem?_append_right (by rw [r.ln]; exact Nat.le_refl _), r.ln, Nat.sub_self] at e2
      cases e1
      cases e2
      exact hx
/-- a cell told of what stands there already, changed by nobody -/
theorem Rel.tell (r : Rel c ρ G μ H) (hp : p ∉ ρ) (hP : c.P p = none) {x : Cell} (hx : CellOk c (ρ ++ [p]) G H x p) : Rel c (ρ ++ [p]) G (μ ++ [x]) H := by
  refine ⟨r.gh, r.bh, r.ph, r.tp, r.g0, r.nw, fun a u e => ?_, by rw [List.length_append, List.length_append, r.ln]; rfl, ?_, fun n a y e1 e2 => ?_⟩
  · obtain ⟨q1, q2, q3⟩ := r.gp a u e
    refine ⟨q1, fun hm => ?_, q3⟩
    rcases List.mem_append.mp hm with z | z
    · exact q2 z
    · have z' : a = p := by simpa using z
      subst z'
      rw [hP] at e
      cases e
  · refine List.nodup_append.mpr ⟨r.nd, by simp, fun a ha b hb z => ?_⟩
    have z' : b = p := by simpa using hb
    subst z' z
    exact hp ha
  · by_cases hn : n < ρ.length
    · rw [List.getElem?_append_left hn] at e1
      rw [List.getElem?_append_left (by rw [← r.ln]; exact hn)] at e2
      exact (r.cl n a y e1 e2).mono (List.prefix_append _ _) (Same.refl _) fun g0 b0 o' q => ⟨g0, q⟩
    · have hn' : n = ρ.length := by
        have := (List.getElem?_eq_some_iff.mp e1).1
        rw [List.length_append, List.length_singleton] at this
        omega
      subst hn'
      rw [List.getElem?_append_right (Nat.le_refl _), Nat.sub_self] at e1
      rw [List.getElem?_append_right (by rw [r.ln]; exact Nat.le_refl _), r.ln, Nat.sub_self] at e2
      cases e1
      cases e2
      exact hx
end
end Lv
set_option Elab.async false
set_option linter.all false
set_option maxRecDepth 100000
set_option autoImplicit false
/-! the judgements' readings by evaluators -/
namespace Lv
open PySem PySem.Spec PyProof.Rows L2
/-- an exception's dict: none, or at d, changed by nobody -/
def XdG (da : Option Addr) (fs : List (Str × D)) (G : Hp) : Prop := (da = none ∧ fs = []) ∨ ∃ d, da = some d ∧ fs ≠ [] ∧ G d = some (.xd (vFs fs))
theorem XdG.up {da : Option Addr} {fs : List (Str × D)} {G G' : Hp} (e : Same G G') (h : XdG da fs G) : XdG da fs G' := by
  rcases h with h | ⟨d, h1, h2⟩
  · exact .inl h
  · exact .inr ⟨d, h1, h2.1, e _ _ h2.2⟩
structure ErrOk (mg : Str → Option Value) (x : Exn) (cls : Value) (da : Option Addr) (G : Hp) : Prop where
  cls : mg x.cls = some cls
  dat : XdG da x.fs G
def rb {α β : Type} (r : R α) (k : α → Sto → R β) : R β := match r with
  | none => none
  | some (.ok (a, μ)) => k a μ
  | some (.error x) => some (.error x)
def ok {α : Type} (a : α) (μ : Sto) : R α := some (.ok (a, μ))
theorem rb_ok {α β : Type} (a : α) (μ : Sto) (k : α → Sto → R β) : rb (ok a μ) k = k a μ := rfl
def Fin (c : Ct) (E : XK) (ρ : List Addr) (G : Hp) {α : Type} (r : R α) (Q : α → List Addr → Hp → Sto → Hp → Prop) : Prop := match r with
  | none => False
  | some (.ok (a, μ)) => ∀ ρ' G' H', ρ <+: ρ' → Same G G' → Rel c ρ' G' μ H' → Q a ρ' G' μ H'
  | some (.error (x, μ)) => ∀ ρ' G' H' cls da, ρ <+: ρ' → Same G G' → Rel c ρ' G' μ H' → ErrOk c.mg x cls da G' → E cls da H'
section
variable {c : Ct} {E : XK} {ρ ρ' : List Addr} {G G' : Hp} {α β : Type}
theorem Fin.up {r : R α} {Q : α → List Addr → Hp → Sto → Hp → Prop} (p : ρ <+: ρ') (e : Same G G') (h : Fin c E ρ G r Q) : Fin c E ρ' G' r Q := by
  match r, h with
  | some (.ok (a, μ)), h => exact fun ρ1 G1 H1 p1 e1 => h ρ1 G1 H1 (p.trans p1) (e.trans e1)
  | some (.error (x, μ)), h => exact fun ρ1 G1 H1 cl da p1 e1 => h ρ1 G1 H1 cl da (p.trans p1) (e.trans e1)
theorem Fin.imp {r : R α} {Q Q' : α → List Addr → Hp → Sto → Hp → Prop} (h : Fin c E ρ G r Q) (q : ∀ a ρ' G' μ' H', ρ <+: ρ' → Same G G' → Rel c ρ' G' μ' H' → Q a ρ' G' μ' H' → Q' a ρ' G' μ' H') : Fin c E ρ G r Q' := by
  match r, h with
  | some (.ok (a, μ)), h => exact fun ρ1 G1 H1 p1 e1 r1 => q _ _ _ _ _ p1 e1 r1 (h ρ1 G1 H1 p1 e1 r1)
  | some (.error (x, μ)), h => exact h
theorem Fin.bind {r : R α} {k : α → Sto → R β} {Q : β → List Addr → Hp → Sto → Hp → Prop} (h : Fin c E ρ G (rb r k) Q) : Fin c E ρ G r fun a ρ' G' μ' _ => Fin c E ρ' G' (k a μ') Q := by
  match r, h with
  | some (.ok (a, μ)), h => exact fun ρ1 G1 H1 p1 e1 _ => Fin.up p1 e1 h
  | some (.error (x, μ)), h => exact h
theorem Fin.ok {a : α} {μ : Sto} {H : Hp} {Q : α → List Addr → Hp → Sto → Hp → Prop} (r : Rel c ρ G μ H) (h : Fin c E ρ G (Lv.ok a μ) Q) : Q a ρ G μ H := h ρ G H (List.prefix_refl _) (Same.refl _) r
theorem Fin.ok_at {a : α} {μ : Sto} {H' : Hp} {Q : α → List Addr → Hp → Sto → Hp → Prop} (p : ρ <+: ρ') (e : Same G G') (r : Rel c ρ' G' μ H') (h : Fin c E ρ G (Lv.ok a μ) Q) : Q a ρ' G' μ H' := h ρ' G' H' p e r
end
def EnvOk (c : Ct) (ρ : List Addr) (G : Hp) (env : Env) (σ : L2.St) : Prop := env.length = σ.length ∧ ∀ (i : Nat) (d : D), env[i]? = some (some d) → ∃ v, σ[i]? = some (some v) ∧ Rep c.K c.B ρ G d v
section
variable {c : Ct} {ρ ρ' : List Addr} {G G' : Hp} {env : Env} {σ : L2.St}
theorem EnvOk.up (p : ρ <+: ρ') (e : Same G G') (h : EnvOk c ρ G env σ) : EnvOk c ρ' G' env σ := ⟨h.1, fun i d q => let ⟨v, a, b⟩ := h.2 i d q; ⟨v, a, b.mono p e⟩⟩
theorem EnvOk.set {i : Nat} {d : D} {v : V} (h : EnvOk c ρ G env σ) (r : Rep c.K c.B ρ G d v) : EnvOk c ρ G (env.set i (some d)) (σ.set i (some v)) := by
  refine ⟨by rw [List.length_set, List.length_set]; exact h.1, fun j x q => ?_⟩
  by_cases hj : i = j
  · subst hj
    by_cases hl : i < env.length
    · rw [List.getElem?_set_self hl] at q
      cases q
      exact ⟨v, by rw [List.getElem?_set_self (by rw [← h.1]; exact hl)], r⟩
    · rw [List.getElem?_eq_none (by rw [List.length_set]; omega)] at q
      cases q
  · rw [List.getElem?_set_ne hj] at q
    obtain ⟨u, a, b⟩ := h.2 j x q
    exact ⟨u, by rw [List.getElem?_set_ne hj]; exact a, b⟩
theorem EnvOk.kill {i : Nat} (h : EnvOk c ρ G env σ) : EnvOk c ρ G (env.set i none) σ := by
  refine ⟨by rw [List.length_set]; exact h.1, fun j x q => ?_⟩
  by_cases hj : i = j
  · subst hj
    by_cases hl : i < env.length
    · rw [List.getElem?_set_self hl] at q
      cases q
    · rw [List.getElem?_eq_none (by rw [List.length_set]; omega)] at q
      cases q
  · rw [List.getElem?_set_ne hj] at q
    exact h.2 j x q
end
/-- an expression's reading by an evaluator -/
def TX (K : PySem.W.Frag) (mg : Str → Option Value) (E : XK) (f : FE) : TE := fun σ H Q => ∃ c env ρ G μ, c.K = K ∧ c.mg = mg ∧ Rel c ρ G μ H ∧ EnvOk c ρ G env σ ∧ Fin c E ρ G (f env μ) fun d ρ' G' _ H' => ∀ v, Rep K c.B ρ' G' d v → Q v H'
def TXs (K : PySem.W.Frag) (mg : Str → Option Value) (E : XK) (f : FEs) : TA := fun σ H Q => ∃ c env ρ G μ, c.K = K ∧ c.mg = mg ∧ Rel c ρ G μ H ∧ EnvOk c ρ G env σ ∧ Fin c E ρ G (f env μ) fun ds ρ' G' _ H' => ∀ vs, Reps K c.B ρ' G' ds vs → Q vs H'
/-- a test's -/
def TXb (K : PySem.W.Frag) (mg : Str → Option Value) (E : XK) (f : FE) : TT := fun σ H Q => ∃ c env ρ G μ, c.K = K ∧ c.mg = mg ∧ Rel c ρ G μ H ∧ EnvOk c ρ G env σ ∧ Fin c E ρ G (f env μ) fun d ρ' G' _ H' => ∃ b, d = .bl b ∧ Q b H'
section
variable {K : PySem.W.Frag} {mg : Str → Option Value} {E : XK} {c : Ct} {env : Env} {ρ : List Addr} {G H : Hp} {μ : Sto} {σ : L2.St}
theorem tx_use {α : Type} {fa : FE} {k : D → Sto → R α} {Q : α → List Addr → Hp → Sto → Hp → Prop} {T : VK} (hK : c.K = K) (hm : c.mg = mg) (r : Rel c ρ G μ H) (e : EnvOk c ρ G env σ) (h : Fin c E ρ G (rb (fa env μ) k) Q)
    (step : ∀ d v ρ1 G1 μ1 H1, ρ <+: ρ1 → Same G G1 → Rel c ρ1 G1 μ1 H1 → EnvOk c ρ1 G1 env σ → Rep K c.B ρ1 G1 d v → Fin c E ρ1 G1 (k d μ1) Q → T v H1) : TX K mg E fa σ H T :=
  ⟨c, env, ρ, G, μ, hK, hm, r, e, h.bind.imp fun d ρ1 G1 μ1 H1 p1 e1 r1 q v hv => step d v ρ1 G1 μ1 H1 p1 e1 r1 (e.up p1 e1) hv q⟩
theorem txs_use {α : Type} {fa : FEs} {k : List D → Sto → R α} {Q : α → List Addr → Hp → Sto → Hp → Prop} {T : List V → Hp → Prop} (hK : c.K = K) (hm : c.mg = mg) (r : Rel c ρ G μ H) (e : EnvOk c ρ G env σ) (h : Fin c E ρ G (rb (fa env μ) k) Q)
    (step : ∀ ds vs ρ1 G1 μ1 H1, ρ <+: ρ1 → Same G G1 → Rel c ρ1 G1 μ1 H1 → EnvOk c ρ1 G1 env σ → Reps K c.B ρ1 G1 ds vs → Fin c E ρ1 G1 (k ds μ1) Q → T vs H1) : TXs K mg E fa σ H T :=
  ⟨c, env, ρ, G, μ, hK, hm, r, e, h.bind.imp fun d ρ1 G1 μ1 H1 p1 e1 r1 q v hv => step d v ρ1 G1 μ1 H1 p1 e1 r1 (e.up p1 e1) hv q⟩
end
theorem PE.imp {X : Cx} {e : Expr} {t t' : TE} (h : PE X e t) (q : ∀ σ H Q, t' σ H Q → t σ H Q) : PE X e t' := ⟨fun pins s σ H Q I hw => h.run pins s σ H Q I (q σ H Q hw)⟩
theorem PT.imp {X : Cx} {e : Expr} {t t' : TT} (h : PT X e t) (q : ∀ σ H Q, t' σ H Q → t σ H Q) : PT X e t' := ⟨fun pins s σ H Q I hw => h.run pins s σ H Q I (q σ H Q hw)⟩
theorem PW.imp {X : Cx} {e : Expr} {t t' : TT} (h : PW X e t) (q : ∀ σ H Q, t' σ H Q → t σ H Q) : PW X e t' := ⟨fun wh pins s σ H Q I hw => h.run wh pins s σ H Q I (q σ H Q hw)⟩
theorem PA.imp {X : Cx} {es : List Expr} {t t' : TA} (h : PA X es t) (q : ∀ σ H Q, t' σ H Q → t σ H Q) : PA X es t' := ⟨fun pos pins s σ H Q I hw => h.run pos pins s σ H Q I (q σ H Q hw)⟩
theorem PS.imp {X : Cx} {st : Stmt} {t t' : TS} (h : PS X st t) (q : ∀ D σ H, t' D σ H → t D σ H) : PS X st t' := ⟨fun pins s σ H D I hw => h.run pins s σ H D I (q D σ H hw)⟩
theorem PSs.imp {X : Cx} {st : List Stmt} {t t' : TS} (h : PSs X st t) (q : ∀ D σ H, t' D σ H → t D σ H) : PSs X st t' := ⟨fun pins s σ H D I hw => h.run pins s σ H D I (q D σ H hw)⟩
theorem OpR.or {X : Cx} {f : Value → Value → Sem Value} {r r' : R2} (h : OpR X f r) (h' : OpR X f r') : OpR X f fun x y H Q => r x y H Q ∨ r' x y H Q := by
  intro pins s σ H x y v u Q I rx ry q
  rcases q with q | q
  · exact h pins s σ H x y v u Q I rx ry q
  · exact h' pins s σ H x y v u Q I rx ry q
/-! ### operators -/
def fBin (op : D → D → Sto → R D) (fa fb : FE) : FE := fun env μ => rb (fa env μ) fun d μ1 => rb (fb env μ1) fun e μ2 => op d e μ2
/-- an operator's rule by an operation on data -/
def OpD (K : PySem.W.Frag) (E : XK) (r : R2) (op : D → D → Sto → R D) : Prop := ∀ (c : Ct) (ρ : List Addr) (G H : Hp) (μ : Sto) (d e : D) (x y : V) (Q : VK), c.K = K → Rel c ρ G μ H → Rep K c.B ρ G d x → Rep K c.B ρ G e y →
  Fin c E ρ G (op d e μ) (fun d ρ' G' _ H' => ∀ v, Rep K c.B ρ' G' d v → Q v H') → r x y H Q
theorem tx_bin {K : PySem.W.Frag} {mg : Str → Option Value} {E : XK} {r : R2} {op : D → D → Sto → R D} {fa fb : FE} (ho : OpD K E r op) : ∀ σ H Q, TX K mg E (fBin op fa fb) σ H Q → tOp r (TX K mg E fa) (TX K mg E fb) σ H Q := by
  rintro σ H Q ⟨c, env, ρ, G, μ, hK, hm, re, eo, h⟩
  refine tx_use hK hm re eo h fun d v ρ1 G1 μ1 H1 p1 e1 r1 eo1 hv h1 => ?_
  refine tx_use hK hm r1 eo1 h1 fun e u ρ2 G2 μ2 H2 p2 e2 r2 eo2 hu h2 => ?_
  exact ho c ρ2 G2 H2 μ2 d e v u Q hK r2 (hv.mono p2 e2) hu h2
theorem tx_un {K : PySem.W.Frag} {mg : Str → Option Value} {E : XK} {r : V → Hp → VK → Prop} {op : D → Sto → R D} {fa : FE}
    (ho : ∀ (c : Ct) (ρ : List Addr) (G H : Hp) (μ : Sto) (d : D) (x : V) (Q : VK), c.K = K → Rel c ρ G μ H → Rep K c.B ρ G d x → Fin c E ρ G (op d μ) (fun d ρ' G' _ H' => ∀ v, Rep K c.B ρ' G' d v → Q v H') → r x H Q) :
    ∀ σ H Q, TX K mg E (fun env μ => rb (fa env μ) fun d μ1 => op d μ1) σ H Q → tUn r (TX K mg E fa) σ H Q := by
  rintro σ H Q ⟨c, env, ρ, G, μ, hK, hm, re, eo, h⟩
  exact tx_use hK hm re eo h fun d v ρ1 G1 μ1 H1 p1 e1 r1 eo1 hv h1 => ho c ρ1 G1 H1 μ1 d v Q hK r1 hv h1
end Lv
set_option Elab.async false
set_option linter.all false
set_option maxRecDepth 100000
set_option autoImplicit false
/-! operations on data -/
namespace Lv
open PySem PySem.Spec PyProof.Rows L2
def LIM : Nat := 1000000
def BIG : Nat := 2 ^ 4000
theorem lim_size {n : Nat} (h : n ≤ LIM) : n ≤ sizeLine := Nat.le_trans h (by decide)
/-- a new list: lv: a live cell -/
def alloc (lv : Bool) (xs : List D) (μ : Sto) : R D := match lv with
  | true => ok (.ref μ.length) (μ ++ [.lst .live xs])
  | false => ok (.lst false xs) μ
section
variable {c : Ct} {E : XK} {ρ : List Addr} {G H : Hp} {μ : Sto} {K : PySem.W.Frag}
theorem alloc_use {lv : Bool} {xs : List D} {vs : List V} {Q : VK} {p : Addr} (hK : c.K = K) (r : Rel c ρ G μ H) (hs : Reps K c.B ρ G xs vs) (hp : H p = none)
    (h : Fin c E ρ G (alloc lv xs μ) fun d ρ' G' _ H' => ∀ v, Rep K c.B ρ' G' d v → Q v H') : Q (.ref p) (upd H p (.lst vs)) := by
  subst hK
  cases lv with
  | false => exact Fin.ok_at (List.prefix_refl _) (same_upd (r.none_g hp)) (r.frozen hp) h _ (rep_upd (r.none_g hp) hs)
  | true =>
    refine Fin.ok_at (List.prefix_append _ _) (Same.refl _) (r.cell (o := .lst vs) (x := .lst .live xs) hp (fun _ z => by cases z) ⟨r.none_b hp, r.none_g hp, vs, upd_same, hs.mono (List.prefix_append _ _) (Same.refl _)⟩) h _ ⟨p, rfl, ?_⟩
    rw [List.getElem?_append_right (by rw [r.ln]; exact Nat.le_refl _), r.ln, Nat.sub_self]
    rfl
theorem tup_use {xs : List D} {vs : List V} {Q : VK} {p : Addr} (hK : c.K = K) (r : Rel c ρ G μ H) (hs : Reps K c.B ρ G xs vs) (hp : H p = none)
    (h : Fin c E ρ G (ok (D.tup xs) μ) fun d ρ' G' _ H' => ∀ v, Rep K c.B ρ' G' d v → Q v H') : Q (.ref p) (upd H p (.tup vs)) := by
  subst hK
  exact Fin.ok_at (List.prefix_refl _) (same_upd (r.none_g hp)) (r.frozen hp) h _ (rep_updT (r.none_g hp) hs)
theorem val_use {d : D} {v : V} {Q : VK} (hK : c.K = K) (r : Rel c ρ G μ H) (hv : Rep K c.B ρ G d v) (h : Fin c E ρ G (ok d μ) fun d ρ' G' _ H' => ∀ v, Rep K c.B ρ' G' d v → Q v H') : Q v H := Fin.ok r h v hv
end
/-! ### lists seen -/
/-- the items of a list that stands by itself (no script) -/
def see (μ : Sto) : D → Option (List D)
  | .lst _ xs => some xs
  | .ref n => match μ[n]? with
    | some (.lst _ xs) => some xs
    | _ => none
  | _ => none
def seeL (μ : Sto) : D → Option (List D)
  | .scr xs => some (xs.map D.int)
  | d => see μ d
section
variable {c : Ct} {ρ : List Addr} {G H : Hp} {μ : Sto}
theorem pick_h (r : Rel c ρ G μ H) {b : Bool} {a : Addr} {o : HO} (h : pick b c.B G a = some o) : H a = some o := by
  cases b with
  | true => exact r.bh _ _ h
  | false => exact r.gh _ _ h
theorem see_ok (r : Rel c ρ G μ H) {d : D} {v : V} {xs : List D} (h : see μ d = some xs) (hv : Rep c.K c.B ρ G d v) : ∃ a vs, v = .ref a ∧ H a = some (.lst vs) ∧ Reps c.K c.B ρ G xs vs := by
  cases d with
  | lst b ys =>
    cases h
    obtain ⟨a, vs, e, h1, h2⟩ := hv
    exact ⟨a, vs, e, pick_h r h1, h2⟩
  | ref n =>
    obtain ⟨a, e, h1⟩ := hv
    have hn : n < μ.length := by
      rw [← r.ln]
      exact (List.getElem?_eq_some_iff.mp h1).1
    have hc := r.cl n a _ h1 (List.getElem?_eq_getElem hn)
    unfold see at h
    simp only [List.getElem?_eq_getElem hn] at h
    generalize μ[n] = x at h hc
    cases x with
    | lst m ys =>
      cases h
      cases m with
      | fz =>
        obtain ⟨vs, q1, q2⟩ := hc
        exact ⟨a, vs, e, r.gh _ _ q1, q2⟩
      | live =>
        obtain ⟨_, _, vs, q1, q2⟩ := hc
        exact ⟨a, vs, e, q1, q2⟩
      | lock =>
        obtain ⟨_, _, vs, q1, q2⟩ := hc
        exact ⟨a, vs, e, q1, q2⟩
    | dK m kvs => cases h
    | dT m kvs => cases h
    | lkT kvs => cases h
    | lkK kvs => cases h
    | exn _ _ => cases h
    | ins _ _ => cases h
  | non => cases h
  | bl _ => cases h
  | int _ => cases h
  | str _ => cases h
  | scr _ => cases h
  | tup _ => cases h
  | dK _ _ => cases h
  | dT _ _ => cases h
theorem sql_up {K : PySem.W.Frag} {H H' : Hp} {a : Addr} {xs : List V} (e : Same H H') (h : SqL K H a xs) : SqL K H' a xs := e.seq h
theorem seeL_ok (r : Rel c ρ G μ H) {d : D} {v : V} {xs : List D} (h : seeL μ d = some xs) (hv : Rep c.K c.B ρ G d v) : ∃ a vs, v = .ref a ∧ SqL c.K H a vs ∧ Reps c.K c.B ρ G xs vs := by
  cases d with
  | scr ys =>
    cases h
    obtain ⟨a, e, h1⟩ := hv
    exact ⟨a, _, e, sql_up r.bh h1, Reps.ints⟩
  | _ =>
    obtain ⟨a, vs, e, h1, h2⟩ := see_ok (xs := xs) r (by exact h) hv
    exact ⟨a, vs, e, .inl (.inl h1), h2⟩
theorem tup_ok (r : Rel c ρ G μ H) {xs : List D} {v : V} (hv : Rep c.K c.B ρ G (.tup xs) v) : ∃ a vs, v = .ref a ∧ SqT c.K H a vs ∧ Reps c.K c.B ρ G xs vs := by
  obtain ⟨a, vs, e, h1, h2⟩ := hv
  exact ⟨a, vs, e, .inl (.inl (r.gh _ _ h1)), h2⟩
end
/-! ### data as PyData -/
def omap {α β : Type} (f : α → Option β) : List α → Option (List β)
  | [] => some []
  | x :: r => match f x, omap f r with
    | some y, some s => some (y :: s)
    | _, _ => none
theorem omap_map {α β γ : Type} {f : β → Option γ} {g : α → β} {k : α → γ} (h : ∀ x, f (g x) = some (k x)) : ∀ xs : List α, omap f (xs.map g) = some (xs.map k)
  | [] => rfl
  | x :: r => by
    show (match f (g x), omap f (r.map g) with
      | some y, some s => some (y :: s)
      | _, _ => none) = some (k x :: r.map k)
    rw [h, omap_map h r]
def py (μ : Sto) : Nat → D → Option PyData
  | _, .non => some .none
  | _, .bl b => some (.bool b)
  | _, .int i => some (.int i)
  | _, .str x => some (.str x)
  | n + 1, .lst _ xs => (omap (py μ n) xs).map .list
  | n + 1, .tup xs => (omap (py μ n) xs).map .tuple
  | n + 1, .scr xs => some (.list (xs.map .int))
  | n + 1, .ref k => match μ[k]? with
    | some (.lst _ xs) => (omap (py μ n) xs).map .list
    | _ => none
  | _, _ => none
theorem dp_ints {K : PySem.W.Frag} {H : Hp} : ∀ (xs : List Int), DpAll K H (xs.map V.int) (xs.map PyData.int)
  | [] => .nil
  | x :: r => .cons (.int x) (dp_ints r)
theorem plain_ints : ∀ (xs : List Int), PyData.plainAll (xs.map PyData.int) = true
  | [] => rfl
  | x :: r => by
    show (true && PyData.plainAll (r.map PyData.int)) = true
    rw [plain_ints r]
    rfl
theorem depth_ints : ∀ (xs : List Int), PyData.depthAll (xs.map PyData.int) = 0
  | [] => rfl
  | x :: r => by
    show max (PyData.depth (.int x)) (PyData.depthAll (r.map PyData.int)) = 0
    rw [depth_ints r]
    rfl
section
variable {c : Ct} {ρ : List Addr} {G H : Hp} {μ : Sto}
theorem dp_all {n : Nat} (ih : ∀ d v pd, py μ n d = some pd → Rep c.K c.B ρ G d v → Dp c.K H v pd ∧ pd.plain = true ∧ pd.depth ≤ n) : ∀ (xs : List D) (vs : List V) (ps : List PyData), omap (py μ n) xs = some ps → Reps c.K c.B ρ G xs vs → DpAll c.K H vs ps ∧ PyData.plainAll ps = true ∧ PyData.depthAll ps ≤ n
  | [], _, _, h, q => by
    cases h
    cases q
    exact ⟨.nil, rfl, Nat.zero_le _⟩
  | d :: xs, _, ps, h, ⟨v, r, e1, h1, h2⟩ => by
    subst e1
    unfold omap at h
    cases e : py μ n d with
    | none =>
      rw [e] at h
      cases h
    | some p =>
      cases e' : omap (py μ n) xs with
      | none =>
        rw [e, e'] at h
        cases h
      | some qs =>
        rw [e, e'] at h
        cases h
        obtain ⟨a1, a2, a3⟩ := ih d v p e h1
        obtain ⟨b1, b2, b3⟩ := dp_all ih xs r qs e' h2
        refine ⟨.cons a1 b1, ?_, ?_⟩
        · show (p.plain && PyData.plainAll qs) = true
          rw [a2, b2]
          rfl
        · show max p.depth (PyData.depthAll qs) ≤ n
          omega
theorem py_dp (re : Rel c ρ G μ H) : ∀ (n : Nat) (d : D) (v : V) (pd : PyData), py μ n d = some pd → Rep c.K c.B ρ G d v → Dp c.K H v pd ∧ pd.plain = true ∧ pd.depth ≤ n := by
  intro n
  induction n with
  | zero =>
    intro d v pd h q
    cases d with
    | non => cases h; cases q; exact ⟨.non, rfl, Nat.le_refl _⟩
    | bl _ => cases h; cases q; exact ⟨.bl _, rfl, Nat.le_refl _⟩
    | int _ => cases h; cases q; exact ⟨.int _, rfl, Nat.le_refl _⟩
    | str _ => cases h; cases q; exact ⟨.str _, rfl, Nat.le_refl _⟩
    | _ => cases h
  | succ n ih =>
    intro d v pd h q
    have fin : ∀ {xs : List D} {vs : List V} {ps : List PyData} {a : Addr}, omap (py μ n) xs = some ps → Reps c.K c.B ρ G xs vs → SqL c.K H a vs → Dp c.K H (.ref a) (.list ps) ∧ (PyData.list ps).plain = true ∧ (PyData.list ps).depth ≤ n + 1 := fun {xs vs ps a} e hr hs => by
      obtain ⟨b1, b2, b3⟩ := dp_all ih xs vs ps e hr
      exact ⟨.lst hs b1, b2, Nat.succ_le_succ b3⟩
    cases d with
    | non => cases h; cases q; exact ⟨.non, rfl, Nat.zero_le _⟩
    | bl _ => cases h; cases q; exact ⟨.bl _, rfl, Nat.zero_le _⟩
    | int _ => cases h; cases q; exact ⟨.int _, rfl, Nat.zero_le _⟩
    | str _ => cases h; cases q; exact ⟨.str _, rfl, Nat.zero_le _⟩
    | scr xs =>
      cases h
      obtain ⟨a, rfl, hs⟩ := q
      refine ⟨.lst (sql_up re.bh hs) (dp_ints xs), plain_ints xs, ?_⟩
      show PyData.depthAll (xs.map PyData.int) + 1 ≤ n + 1
      rw [depth_ints]
      omega
    | lst b xs =>
      cases e : omap (py μ n) xs with
      | none =>
        simp only [py, e] at h
        cases h
      | some ps =>
        simp only [py, e] at h
        cases h
        obtain ⟨a, vs, rfl, q1, q2⟩ := see_ok re (d := .lst b xs) rfl q
        exact fin e q2 (.inl (.inl q1))
    | tup xs =>
      cases e : omap (py μ n) xs with
      | none =>
        simp only [py, e] at h
        cases h
      | some ps =>
        simp only [py, e] at h
        cases h
        obtain ⟨a, vs, rfl, q1, q2⟩ := tup_ok re q
        obtain ⟨b1, b2, b3⟩ := dp_all ih xs vs ps e q2
        exact ⟨.tup q1 b1, b2, Nat.succ_le_succ b3⟩
    | ref k =>
      have hs : ∃ xs, see μ (.ref k) = some xs ∧ (omap (py μ n) xs).map PyData.list = some pd := by
        unfold py at h
        split at h
        · rename_i m ys e0
          exact ⟨ys, by simp only [see, e0], h⟩
        · cases h
      obtain ⟨xs, e1, e2⟩ := hs
      cases e : omap (py μ n) xs with
      | none =>
        rw [e] at e2
        cases e2
      | some ps =>
        rw [e] at e2
        cases e2
        obtain ⟨a, vs, rfl, q1, q2⟩ := see_ok re e1 q
        exact fin e q2 (.inl (.inl q1))
    | dK _ _ => cases h
    | dT _ _ => cases h
end
/-! ### comparisons of data -/
def rPy (K : PySem.W.Frag) (g : PyData → PyData → Option Bool) : R2 := fun x y H Q => ∃ d e b, Dp K H x d ∧ Dp K H y e ∧ (d.plain = true ∧ e.plain = true ∧ d.depth ≤ 20 ∧ e.depth ≤ 20) ∧ g d e = some b ∧ Q (.bl b) H
def gEq (d e : PyData) : Option Bool := some (PyData.eqv d e)
def gNe (d e : PyData) : Option Bool := some (!PyData.eqv d e)
def isNone : PyData → Bool
  | .none => true
  | _ => false
def gLt (d e : PyData) : Option Bool := if (PySem.W.alike d e && !isNone d) = true then some (PySem.W.dataLt d e) else none
def gGt (d e : PyData) : Option Bool := if (PySem.W.alike d e && !isNone d) = true then some (PySem.W.dataLt e d) else none
def gLe (d e : PyData) : Option Bool := if (PySem.W.alike d e && !isNone d) = true then some (!PySem.W.dataLt e d) else none
def gGe (d e : PyData) : Option Bool := if (PySem.W.alike d e && !isNone d) = true then some (!PySem.W.dataLt d e) else none
def gIn (d e : PyData) : Option Bool := match e with
  | .list xs => some (xs.any fun z => PyData.eqv z d)
  | .tuple xs => some (xs.any fun z => PyData.eqv z d)
  | _ => none
def gNin (d e : PyData) : Option Bool := match e with
  | .list xs => some (!xs.any fun z => PyData.eqv z d)
  | .tuple xs => some (!xs.any fun z => PyData.eqv z d)
  | _ => none
inductive Cmp where
  | eq | ne | lt | le | gt | ge | inn | nin
deriving DecidableEq
def Cmp.op : Cmp → CmpOp
  | .eq => .Eq | .ne => .NotEq | .lt => .Lt | .le => .LtE | .gt => .Gt | .ge => .GtE | .inn => .In | .nin => .NotIn
def Cmp.g : Cmp → PyData → PyData → Option Bool
  | .eq => gEq | .ne => gNe | .lt => gLt | .le => gLe | .gt => gGt | .ge => gGe | .inn => gIn | .nin => gNin
theorem ord_split {d e : PyData} {x : Bool} {b : Bool} (h : (if (PySem.W.alike d e && !isNone d) = true then some x else none) = some b) : PySem.W.alike d e = true ∧ d ≠ .none ∧ x = b := by
  by_cases q : (PySem.W.alike d e && !isNone d) = true
  · rw [if_pos q] at h
    rw [Bool.and_eq_true] at q
    refine ⟨q.1, fun z => ?_, Option.some.inj h⟩
    rw [z] at q
    exact absurd q.2 (by decide)
  · rw [if_neg q] at h
    cases h
theorem op_py {X : Cx} (hu : X.A.units + 64 < cLine) (k : Cmp) : OpR X (compareOp k.op) (rPy X.K k.g) := by
  intro pins s σ H x y v u Q I rx ry h
  obtain ⟨d, e, b, hd, he, ⟨p1, p2, q1, q2⟩, hg, q⟩ := h
  obtain ⟨as, r1⟩ := Dp.reads I d x v hd rx
  obtain ⟨bs, r2⟩ := Dp.reads I e y u he ry
  have hm : X.A.units + min d.depth e.depth < cLine := by omega
  have fin : EP X pins σ Q (.bool b) s := ⟨.bl b, H, I, rfl, q⟩
  cases k with
  | eq =>
    cases hg
    exact SeqAt.eq_plain r1 r2 p1 p2 hm fin
  | ne =>
    cases hg
    exact SeqAt.ne_plain r1 r2 p1 p2 hm fin
  | lt =>
    obtain ⟨ha, hn, e⟩ := ord_split hg
    subst e
    exact PySem.W.lt_data r1 r2 ha hn hm fin
  | le =>
    obtain ⟨ha, hn, e⟩ := ord_split hg
    subst e
    exact PySem.W.le_data r1 r2 ha hn hm fin
  | gt =>
    obtain ⟨ha, hn, e⟩ := ord_split hg
    subst e
    exact PySem.W.gt_data r1 r2 ha hn hm fin
  | ge =>
    obtain ⟨ha, hn, e⟩ := ord_split hg
    subst e
    exact PySem.W.ge_data r1 r2 ha hn hm fin
  | inn =>
    cases e with
    | list xs =>
      cases hg
      have hd' : PyData.depthAll xs + 1 ≤ 20 := q2
      exact SeqAt.in_list_data r2 r1 p2 p1 (by omega) fin
    | tuple xs =>
      cases hg
      have hd' : PyData.depthAll xs + 1 ≤ 20 := q2
      exact SeqAt.in_tuple_data r2 r1 p2 p1 (by omega) fin
    | _ => cases hg
  | nin =>
    cases e with
    | list xs =>
      cases hg
      have hd' : PyData.depthAll xs + 1 ≤ 20 := q2
      exact SeqAt.notIn_list_data r2 r1 p2 p1 (by omega) fin
    | tuple xs =>
      cases hg
      have hd' : PyData.depthAll xs + 1 ≤ 20 := q2
      exact SeqAt.notIn_tuple_data r2 r1 p2 p1 (by omega) fin
    | _ => cases hg
/-- the operation on data -/
def dCmp (k : Cmp) (d e : D) (μ : Sto) : R D := match py μ 8 d, py μ 8 e with
  | some p, some q => match k.g p q with
    | some b => ok (.bl b) μ
    | none => none
  | _, _ => none
theorem cmp_ok {K : PySem.W.Frag} {E : XK} (k : Cmp) : OpD K E (rPy K k.g) (dCmp k) := by
  intro c ρ G H μ d e x y Q hK r hx hy h
  subst hK
  unfold dCmp at h
  cases e1 : py μ 8 d with
  | none =>
    simp only [e1] at h
    exact h.elim
  | some p =>
    cases e2 : py μ 8 e with
    | none =>
      simp only [e1, e2] at h
      exact h.elim
    | some q =>
      cases e3 : k.g p q with
      | none =>
        simp only [e1, e2, e3] at h
        exact h.elim
      | some b =>
        simp only [e1, e2, e3] at h
        obtain ⟨a1, a2, a3⟩ := py_dp r 8 d x p e1 hx
        obtain ⟨b1, b2, b3⟩ := py_dp r 8 e y q e2 hy
        exact ⟨p, q, b, a1, b1, ⟨a2, b2, by omega, by omega⟩, e3, val_use (d := .bl b) (v := .bl b) rfl r rfl h⟩
end Lv
set_option Elab.async false
set_option linter.all false
set_option maxRecDepth 100000
set_option autoImplicit false
/-! arithmetic, items, slices -/
namespace Lv
open PySem PySem.Spec PyProof.Rows L2
/-! ### + -/
def dAdd (lv : Bool) (d e : D) (μ : Sto) : R D := match d, e with
  | .int i, .int j => ok (.int (i + j)) μ
  | .str x, .str y => if x.length + y.length ≤ LIM then ok (.str (x ++ y)) μ else none
  | .tup xs, .tup ys => if xs.length + ys.length ≤ LIM then ok (.tup (xs ++ ys)) μ else none
  | d, e => match see μ d, see μ e with
    | some xs, some ys => if xs.length + ys.length ≤ LIM then alloc lv (xs ++ ys) μ else none
    | _, _ => none
def rAddA (K : PySem.W.Frag) : R2 := fun x y H Q => rI0 (fun i j => .int (i + j)) x y H Q ∨ (∃ i j, x = .str i ∧ y = .str j ∧ i.length + j.length ≤ sizeLine ∧ Q (.str (i ++ j)) H) ∨ rCat x y H Q ∨ rCatA K x y H Q
theorem op_addA {X : Cx} : OpR X (binaryOp .Add) (rAddA X.K) := op_add.or (op_add_str.or (op_cat.or op_catA))
theorem fin_none {c : Ct} {E : XK} {ρ : List Addr} {G : Hp} {α : Type} {Q : α → List Addr → Hp → Sto → Hp → Prop} {P : Prop} (h : Fin c E ρ G (none : R α) Q) : P := False.elim h
theorem add_ok {K : PySem.W.Frag} {E : XK} (lv : Bool) : OpD K E (rAddA K) (dAdd lv) := by
  intro c ρ G H μ d e x y Q hK r hx hy h
  subst hK
  unfold dAdd at h
  split at h
  · cases hx
    cases hy
    exact .inl ⟨_, _, rfl, rfl, val_use (d := .int _) (v := .int _) rfl r rfl h⟩
  · cases hx
    cases hy
    split at h
    · rename_i hl
      exact .inr (.inl ⟨_, _, rfl, rfl, lim_size hl, val_use (d := .str _) (v := .str _) rfl r rfl h⟩)
    · exact fin_none h
  · rename_i xs ys
    split at h
    · rename_i hl
      obtain ⟨a, vs, rfl, h1, h2⟩ := hx
      obtain ⟨b, us, rfl, k1, k2⟩ := hy
      have q1 : SqT c.K H a vs := .inl (.inl (r.gh _ _ h1))
      have q2 : SqT c.K H b us := .inl (.inl (r.gh _ _ k1))
      have e1 := h2.length
      have e2 := k2.length
      refine .inr (.inr (.inr ⟨a, b, vs, us, rfl, rfl, q1, q2, lim_size (by omega), fun z => ?_, fun z z' => ?_, fun z z' p hp => ?_⟩))
      · subst z
        have : xs = [] := List.length_eq_zero_iff.mp e1
        subst this
        exact val_use (d := .tup ys) rfl r ⟨b, us, rfl, k1, k2⟩ h
      · subst z'
        have : ys = [] := List.length_eq_zero_iff.mp e2
        subst this
        rw [List.append_nil] at h
        exact val_use (d := .tup xs) rfl r ⟨a, vs, rfl, h1, h2⟩ h
      · exact tup_use rfl r (h2.append k2) hp h
    · exact fin_none h
  · split at h
    · rename_i xs ys e1 e2
      split at h
      · rename_i hl
        obtain ⟨a, vs, rfl, q1, h2⟩ := see_ok r e1 hx
        obtain ⟨b, us, rfl, q2, k2⟩ := see_ok r e2 hy
        have l1 := h2.length
        have l2 := k2.length
        exact .inr (.inr (.inl ⟨a, b, vs, us, rfl, rfl, q1, q2, lim_size (by omega), fun p hp => alloc_use rfl r (h2.append k2) hp h⟩))
      · exact fin_none h
    · exact fin_none h
/-! ### - * // % ** -/
def dSub (d e : D) (μ : Sto) : R D := match d, e with
  | .int i, .int j => ok (.int (i - j)) μ
  | _, _ => none
theorem sub_ok {K : PySem.W.Frag} {E : XK} : OpD K E (rI0 fun i j => .int (i - j)) dSub := by
  intro c ρ G H μ d e x y Q hK r hx hy h
  subst hK
  unfold dSub at h
  split at h
  · cases hx
    cases hy
    exact ⟨_, _, rfl, rfl, val_use (d := .int _) (v := .int _) rfl r rfl h⟩
  · exact fin_none h
def fits (i : Int) : Bool := decide (i.natAbs < BIG)
theorem fits_log {i : Int} (h : fits i = true) : i.natAbs.log2 < 4000 := by
  have h1 : i.natAbs < BIG := of_decide_eq_true h
  exact PySem.Flt.log2_lt_of (by decide) h1
theorem fits_mul {i j : Int} (h : fits i = true) (h' : fits j = true) : CMulW i j := by
  have a := fits_log h
  have b := fits_log h'
  unfold CMulW
  omega
def small (i : Int) : Bool := decide (i.natAbs < 2 ^ 64)
def mulOk (i j : Int) : Bool := (fits i && fits j) || small i || small j
theorem small_bits {i : Int} (h : small i = true) : Builtin.Int.intBits i ≤ 64 := PyProof.Rows.intBits_le (k := 64) (of_decide_eq_true h)
theorem mulOk_ok {i j : Int} (h : mulOk i j = true) : IntMulOk i j := by
  unfold mulOk at h
  rcases Bool.or_eq_true_iff.mp h with h | h
  · rcases Bool.or_eq_true_iff.mp h with h | h
    · rw [Bool.and_eq_true] at h
      exact (fits_mul h.1 h.2).ok
    · exact .of_left (small_bits h)
  · exact .of_right (small_bits h)
def mulSOk (z : Str) (k : Int) : Bool := decide (z.length ≤ 1000) && decide (k.natAbs ≤ 1000)
theorem mulS_ok {z : Str} {k : Int} (h : mulSOk z k = true) : MulOk z k := by
  unfold mulSOk at h
  rw [Bool.and_eq_true, decide_eq_true_eq, decide_eq_true_eq] at h
  obtain ⟨h1, h2⟩ := h
  refine ⟨?_, fun h3 _ h4 => ?_, fun h3 _ => ?_⟩
  · rw [decide_eq_false (by omega), decide_eq_false (by omega)]
    rfl
  · have : (1000 : Int) ≤ (2 ^ 63 - 1) / k := Int.le_ediv_of_mul_le (by omega) (by omega)
    omega
  · have : z.length * k.toNat ≤ 1000 * 1000 := Nat.mul_le_mul h1 (by omega)
    show decide (z.length * k.toNat > sizeLine) = false
    exact decide_eq_false (by rw [sizeLine_eq]; omega)
def dMul (lv : Bool) (d e : D) (μ : Sto) : R D := match d, e with
  | .int i, .int j => if mulOk i j = true then ok (.int (i * j)) μ else none
  | .str z, .int k => if mulSOk z k = true then ok (.str (Txt.mul z k)) μ else none
  | d, .int k => match see μ d with
    | some xs => if k.natAbs ≤ LIM ∧ xs.length * k.toNat ≤ LIM then alloc lv (List.replicate k.toNat xs).flatten μ else none
    | none => none
  | _, _ => none
def rMulT : R2 := fun x y H Q => ∃ z k, x = .str z ∧ y = .int k ∧ MulOk z k ∧ Q (.str (Txt.mul z k)) H
theorem op_mulT {X : Cx} : OpR X (binaryOp .Mult) rMulT := by
  intro pins s σ H x y v u Q I rx ry h
  obtain ⟨z, k, rfl, rfl, hm, q⟩ := h
  obtain ⟨t, rfl⟩ := rx
  obtain ⟨t', rfl⟩ := ry
  exact PySem.SB.mul hm fun t' k => ⟨.str _, H, I.kept (t' := k) fun _ _ z => z, ⟨_, rfl⟩, q⟩
def rMulA (K : PySem.W.Frag) : R2 := fun x y H Q => rI IntMulOk (fun i j => .int (i * j)) x y H Q ∨ rRep x y H Q ∨ rMulT x y H Q
theorem op_mulI {X : Cx} : OpR X (binaryOp .Mult) (rI IntMulOk fun i j => .int (i * j)) := opI fun _ _ _ _ _ _ _ hc q => mul_int q hc
theorem op_mulA {X : Cx} : OpR X (binaryOp .Mult) (rMulA X.K) := op_mulI.or (op_rep.or op_mulT)
theorem flat_rep {K : PySem.W.Frag} {B : Hp} {ρ : List Addr} {G : Hp} {xs : List D} {vs : List V} (h : Reps K B ρ G xs vs) : ∀ n : Nat, Reps K B ρ G (List.replicate n xs).flatten (List.replicate n vs).flatten
  | 0 => rfl
  | n + 1 => by
    rw [List.replicate_succ, List.replicate_succ, List.flatten_cons, List.flatten_cons]
    exact h.append (flat_rep h n)
theorem mul_ok {K : PySem.W.Frag} {E : XK} (lv : Bool) : OpD K E (rMulA K) (dMul lv) := by
  intro c ρ G H μ d e x y Q hK r hx hy h
  subst hK
  unfold dMul at h
  split at h
  · split at h
    · rename_i hf
      cases hx
      cases hy
      exact .inl ⟨_, _, rfl, rfl, mulOk_ok hf, val_use (d := .int _) (v := .int _) rfl r rfl h⟩
    · exact fin_none h
  · split at h
    · rename_i hf
      cases hx
      cases hy
      exact .inr (.inr ⟨_, _, rfl, rfl, mulS_ok hf, val_use (d := .str _) (v := .str _) rfl r rfl h⟩)
    · exact fin_none h
  · cases hy
    split at h
    · rename_i xs e1
      split at h
      · rename_i hl
        obtain ⟨a, vs, rfl, q1, h2⟩ := see_ok r e1 hx
        have l1 := h2.length
        have hl1 := hl.1
        have : LIM < 2 ^ 63 := by decide
        refine .inr (.inl ⟨a, _, vs, rfl, rfl, q1, ?_, ?_, lim_size (by rw [← l1]; exact hl.2), fun p hp => alloc_use rfl r (flat_rep h2 _) hp h⟩)
        · omega
        · omega
      · exact fin_none h
    · exact fin_none h
  · exact fin_none h
def dDiv (d e : D) (μ : Sto) : R D := match d, e with
  | .int i, .int j => if (decide (0 < j) && fits j) = true then ok (.int (i / j)) μ else none
  | _, _ => none
theorem div_ok {K : PySem.W.Frag} {E : XK} : OpD K E (rI CDivW fun i j => .int (i / j)) dDiv := by
  intro c ρ G H μ d e x y Q hK r hx hy h
  subst hK
  unfold dDiv at h
  split at h
  · split at h
    · rename_i hf
      rw [Bool.and_eq_true] at hf
      cases hx
      cases hy
      have hg := fits_log hf.2
      exact ⟨_, _, rfl, rfl, ⟨of_decide_eq_true hf.1, by omega⟩, val_use (d := .int _) (v := .int _) rfl r rfl h⟩
    · exact fin_none h
  · exact fin_none h
def dMod (d e : D) (μ : Sto) : R D := match d, e with
  | .int i, .int j => if 0 < j then ok (.int (i % j)) μ else none
  | _, _ => none
theorem mod_ok {K : PySem.W.Frag} {E : XK} : OpD K E (rI (fun _ j => 0 < j) fun i j => .int (i % j)) dMod := by
  intro c ρ G H μ d e x y Q hK r hx hy h
  subst hK
  unfold dMod at h
  split at h
  · split at h
    · rename_i hf
      cases hx
      cases hy
      exact ⟨_, _, rfl, rfl, hf, val_use (d := .int _) (v := .int _) rfl r rfl h⟩
    · exact fin_none h
  · exact fin_none h
def CPowW (i j : Int) : Prop := 0 ≤ j ∧ j ≤ 1000 ∧ i.natAbs < BIG
theorem op_powW {X : Cx} : OpR X (binaryOp .Pow) (rI CPowW fun i j => .int (i ^ j.toNat)) := opI fun i j _ _ _ _ _ hc q => by
  obtain ⟨h1, h2, h3⟩ := hc
  have hb : Builtin.Int.intBits i ≤ 4000 := PyProof.Rows.intBits_le (k := 4000) h3
  refine pow_int h1 ?_ q
  have e1 : (Builtin.Int.intBits i : Int) ≤ 4000 := by omega
  have e2 : (Builtin.Int.intBits i : Int) * j ≤ 4000 * 1000 := Int.mul_le_mul e1 h2 h1 (by decide)
  exact Int.le_trans e2 (by decide)
def dPow (d e : D) (μ : Sto) : R D := match d, e with
  | .int i, .int j => if (decide (0 ≤ j) && decide (j ≤ 1000) && fits i) = true then ok (.int (i ^ j.toNat)) μ else none
  | _, _ => none
theorem pow_ok {K : PySem.W.Frag} {E : XK} : OpD K E (rI CPowW fun i j => .int (i ^ j.toNat)) dPow := by
  intro c ρ G H μ d e x y Q hK r hx hy h
  subst hK
  unfold dPow at h
  split at h
  · split at h
    · rename_i hf
      rw [Bool.and_eq_true, Bool.and_eq_true] at hf
      cases hx
      cases hy
      exact ⟨_, _, rfl, rfl, ⟨of_decide_eq_true hf.1.1, of_decide_eq_true hf.1.2, of_decide_eq_true hf.2⟩, val_use (d := .int _) (v := .int _) rfl r rfl h⟩
    · exact fin_none h
  · exact fin_none h
inductive Bop where
  | add | sub | mul | div | mod | pow
def Bop.op : Bop → Operator
  | .add => .Add | .sub => .Sub | .mul => .Mult | .div => .FloorDiv | .mod => .Mod | .pow => .Pow
def Bop.d (lv : Bool) : Bop → D → D → Sto → R D
  | .add => dAdd lv | .sub => dSub | .mul => dMul lv | .div => dDiv | .mod => dMod | .pow => dPow
def Bop.r (K : PySem.W.Frag) : Bop → R2
  | .add => rAddA K | .sub => rI0 fun i j => .int (i - j) | .mul => rMulA K | .div => rI CDivW fun i j => .int (i / j) | .mod => rI (fun _ j => 0 < j) fun i j => .int (i % j) | .pow => rI CPowW fun i j => .int (i ^ j.toNat)
theorem Bop.opR {X : Cx} (b : Bop) : OpR X (binaryOp b.op) (b.r X.K) := by
  cases b with
  | add => exact op_addA
  | sub => exact op_sub
  | mul => exact op_mulA
  | div => exact op_fdivW
  | mod => exact op_mod
  | pow => exact op_powW
theorem Bop.opD {K : PySem.W.Frag} {E : XK} (lv : Bool) (b : Bop) : OpD K E (b.r K) (b.d lv) := by
  cases b with
  | add => exact add_ok lv
  | sub => exact sub_ok
  | mul => exact mul_ok lv
  | div => exact div_ok
  | mod => exact mod_ok
  | pow => exact pow_ok
def dNeg (d : D) (μ : Sto) : R D := match d with
  | .int i => ok (.int (-i)) μ
  | _ => none
/-! ### items -/
def dIx (d e : D) (μ : Sto) : R D := match d, e with
  | .tup xs, .int i => match atI xs i with
    | some x => ok x μ
    | none => none
  | .str z, .int i => if z.length ≤ LIM then match atI z.cps.toList i with
    | some c => ok (.str ⟨#[c]⟩) μ
    | none => none
    else none
  | d, .int i => match seeL μ d with
    | some xs => match atI xs i with
      | some x => ok x μ
      | none => none
    | none => none
  | _, _ => none
theorem atI_rep {K : PySem.W.Frag} {B : Hp} {ρ : List Addr} {G : Hp} {xs : List D} {vs : List V} {i : Int} {x : D} (h : Reps K B ρ G xs vs) (e : atI xs i = some x) : ∃ v, atI vs i = some v ∧ Rep K B ρ G x v := by
  unfold atI at e ⊢
  rw [← h.length]
  cases q : ixN xs.length i with
  | none =>
    rw [q] at e
    cases e
  | some j =>
    rw [q] at e
    exact h.get e
theorem ix_ok {K : PySem.W.Frag} {E : XK} : OpD K E (rIx K) dIx := by
  intro c ρ G H μ d e x y Q hK r hx hy h
  subst hK
  unfold dIx at h
  split at h
  · split at h
    · rename_i w e1
      cases hy
      obtain ⟨a, vs, rfl, h1, h2⟩ := tup_ok r hx
      obtain ⟨v, q1, q2⟩ := atI_rep h2 e1
      exact .inr (.inl ⟨a, vs, _, v, rfl, rfl, h1, q1, val_use rfl r q2 h⟩)
    · exact fin_none h
  · split at h
    · rename_i hl
      split at h
      · rename_i w e1
        cases hx
        cases hy
        exact .inr (.inr ⟨_, _, w, rfl, rfl, lim_size hl, e1, val_use (d := .str _) (v := .str _) rfl r rfl h⟩)
      · exact fin_none h
    · exact fin_none h
  · split at h
    · rename_i xs e0
      split at h
      · rename_i w e1
        cases hy
        obtain ⟨a, vs, rfl, h1, h2⟩ := seeL_ok r e0 hx
        obtain ⟨v, q1, q2⟩ := atI_rep h2 e1
        exact .inl ⟨a, vs, _, v, rfl, rfl, h1, q1, val_use rfl r q2 h⟩
      · exact fin_none h
    · exact fin_none h
  · exact fin_none h
/-! ### slices -/
def cut {α : Type} (xs : List α) (lo hi : Option Int) : List α := (xs.drop (HT.sIx xs.length 0 lo)).take (HT.sIx xs.length xs.length hi - HT.sIx xs.length 0 lo)
theorem cut_rep {K : PySem.W.Frag} {B : Hp} {ρ : List Addr} {G : Hp} {xs : List D} {vs : List V} {lo hi : Option Int} (h : Reps K B ρ G xs vs) : Reps K B ρ G (cut xs lo hi) (cutV vs lo hi) := by
  unfold cut cutV
  rw [h.length]
  exact (h.drop _).take _
def fPart (f : Option FE) : Env → Sto → R (Option Int) := fun env μ => match f with
  | none => ok none μ
  | some f => rb (f env μ) fun d μ1 => match d with
    | .int i => ok (some i) μ1
    | _ => none
def dSlice (lv : Bool) (d : D) (lo hi : Option Int) (μ : Sto) : R D := match d with
  | .tup xs => ok (.tup (cut xs lo hi)) μ
  | .str z => if z.length ≤ LIM then ok (.str (cutS z lo hi)) μ else none
  | d => match seeL μ d with
    | some xs => alloc lv (cut xs lo hi) μ
    | none => none
end Lv
set_option Elab.async false
set_option linter.all false
set_option maxRecDepth 100000
set_option autoImplicit false
/-! slices; built-ins that are called -/
namespace Lv
open PySem PySem.Spec PyProof.Rows L2
def rSlice (K : PySem.W.Frag) : V → Option Int → Option Int → Hp → VK → Prop := fun x lo hi H Q => rSlL K x lo hi H Q ∨ rSlA K x lo hi H Q ∨ rSlS x lo hi H Q
theorem sl_any {X : Cx} : SlR X (rSlice X.K) := sl_list.or (sl_tupA.or sl_str)
theorem slice_ok {K : PySem.W.Frag} {E : XK} {c : Ct} {ρ : List Addr} {G H : Hp} {μ : Sto} {d : D} {x : V} {lo hi : Option Int} {Q : VK} (lv : Bool) (hK : c.K = K) (r : Rel c ρ G μ H) (hx : Rep K c.B ρ G d x)
    (h : Fin c E ρ G (dSlice lv d lo hi μ) fun d ρ' G' _ H' => ∀ v, Rep K c.B ρ' G' d v → Q v H') : rSlice K x lo hi H Q := by
  subst hK
  unfold dSlice at h
  split at h
  · rename_i xs
    obtain ⟨a, vs, rfl, h1, h2⟩ := hx
    refine .inr (.inl ⟨a, vs, rfl, (.inl (.inl (r.gh _ _ h1))), fun z => ?_, fun z p hp => ?_⟩)
    · have e : cut xs lo hi = xs := by
        unfold cut
        rw [h2.length, z.1, z.2, List.drop_zero, Nat.sub_zero, ← h2.length, List.take_length]
      rw [e] at h
      exact val_use (d := .tup xs) rfl r ⟨a, vs, rfl, h1, h2⟩ h
    · exact tup_use rfl r (cut_rep h2) hp h
  · split at h
    · rename_i hl
      cases hx
      exact .inr (.inr ⟨_, rfl, lim_size hl, val_use (d := .str _) (v := .str _) rfl r rfl h⟩)
    · exact fin_none h
  · split at h
    · rename_i xs e1
      obtain ⟨a, vs, rfl, h1, h2⟩ := seeL_ok r e1 hx
      exact .inl ⟨a, vs, rfl, h1, fun p hp => alloc_use rfl r (cut_rep h2) hp h⟩
    · exact fin_none h
def fSlice (lv : Bool) (fa : FE) (lo hi : Option FE) : FE := fun env μ => rb (fa env μ) fun d μ1 => rb (fPart lo env μ1) fun l μ2 => rb (fPart hi env μ2) fun u μ3 => dSlice lv d l u μ3
def tPartX (K : PySem.W.Frag) (mg : Str → Option Value) (E : XK) (f : Option FE) : TO := match f with
  | none => tNoPart
  | some f => tPart (TX K mg E f)
section
variable {K : PySem.W.Frag} {mg : Str → Option Value} {E : XK} {c : Ct} {env : Env} {ρ : List Addr} {G H : Hp} {μ : Sto} {σ : L2.St}
theorem part_use {α : Type} {f : Option FE} {k : Option Int → Sto → R α} {Q : α → List Addr → Hp → Sto → Hp → Prop} {T : Option Int → Hp → Prop} (hK : c.K = K) (hm : c.mg = mg) (r : Rel c ρ G μ H) (e : EnvOk c ρ G env σ) (h : Fin c E ρ G (rb (fPart f env μ) k) Q)
    (step : ∀ o ρ1 G1 μ1 H1, ρ <+: ρ1 → Same G G1 → Rel c ρ1 G1 μ1 H1 → EnvOk c ρ1 G1 env σ → Fin c E ρ1 G1 (k o μ1) Q → T o H1) : tPartX K mg E f σ H T := by
  cases f with
  | none => exact step none ρ G μ H (List.prefix_refl _) (Same.refl _) r e h
  | some f =>
    have h' : Fin c E ρ G (rb (f env μ) fun d μ1 => rb (match d with
      | .int i => ok (some i) μ1
      | _ => none) k) Q := by
      unfold fPart at h
      simp only at h
      cases q : f env μ with
      | none =>
        rw [q] at h
        exact h
      | some o =>
        rw [q] at h
        cases o with
        | error x => exact h
        | ok p => exact h
    refine tx_use hK hm r e h' fun d v ρ1 G1 μ1 H1 p1 e1 r1 eo1 hv h1 => ?_
    cases d with
    | int i =>
      cases hv
      exact ⟨i, rfl, step (some i) ρ1 G1 μ1 H1 p1 e1 r1 eo1 h1⟩
    | _ => exact fin_none h1
theorem tx_slice {fa : FE} {lo hi : Option FE} (lv : Bool) : ∀ σ H Q, TX K mg E (fSlice lv fa lo hi) σ H Q → tSl (rSlice K) (TX K mg E fa) (tPartX K mg E lo) (tPartX K mg E hi) σ H Q := by
  rintro σ H Q ⟨c, env, ρ, G, μ, hK, hm, re, eo, h⟩
  refine tx_use hK hm re eo h fun d v ρ1 G1 μ1 H1 p1 e1 r1 eo1 hv h1 => ?_
  refine part_use hK hm r1 eo1 h1 fun l ρ2 G2 μ2 H2 p2 e2 r2 eo2 h2 => ?_
  refine part_use hK hm r2 eo2 h2 fun u ρ3 G3 μ3 H3 p3 e3 r3 eo3 h3 => ?_
  exact slice_ok lv hK r3 (hv.mono (p2.trans p3) (e2.trans e3)) h3
end
/-! ### built-ins by data -/
def intsD : List D → Option (List Int)
  | [] => some []
  | .int i :: r => (intsD r).map (i :: ·)
  | _ :: _ => none
def boolsD : List D → Option (List Bool)
  | [] => some []
  | .bl i :: r => (boolsD r).map (i :: ·)
  | _ :: _ => none
theorem ints_map : ∀ xs : List Int, intsD (xs.map D.int) = some xs
  | [] => rfl
  | x :: r => by
    show (intsD (r.map D.int)).map (x :: ·) = some (x :: r)
    rw [ints_map r]
    rfl
theorem bools_map : ∀ xs : List Bool, boolsD (xs.map D.bl) = some xs
  | [] => rfl
  | x :: r => by
    show (boolsD (r.map D.bl)).map (x :: ·) = some (x :: r)
    rw [bools_map r]
    rfl
theorem ints_eq : ∀ {ds : List D} {ns : List Int}, intsD ds = some ns → ds = ns.map D.int
  | [], _, h => by cases h; rfl
  | .int i :: r, ns, h => by
    cases q : intsD r with
    | none =>
      simp only [intsD, q] at h
      cases h
    | some ms =>
      simp only [intsD, q] at h
      cases h
      rw [ints_eq q]
      rfl
  | .non :: _, _, h => by cases h
  | .bl _ :: _, _, h => by cases h
  | .str _ :: _, _, h => by cases h
  | .scr _ :: _, _, h => by cases h
  | .lst _ _ :: _, _, h => by cases h
  | .tup _ :: _, _, h => by cases h
  | .ref _ :: _, _, h => by cases h
  | .dK _ _ :: _, _, h => by cases h
  | .dT _ _ :: _, _, h => by cases h
theorem bools_eq : ∀ {ds : List D} {ns : List Bool}, boolsD ds = some ns → ds = ns.map D.bl
  | [], _, h => by cases h; rfl
  | .bl i :: r, ns, h => by
    cases q : boolsD r with
    | none =>
      simp only [boolsD, q] at h
      cases h
    | some ms =>
      simp only [boolsD, q] at h
      cases h
      rw [bools_eq q]
      rfl
  | .non :: _, _, h => by cases h
  | .int _ :: _, _, h => by cases h
  | .str _ :: _, _, h => by cases h
  | .scr _ :: _, _, h => by cases h
  | .lst _ _ :: _, _, h => by cases h
  | .tup _ :: _, _, h => by cases h
  | .ref _ :: _, _, h => by cases h
  | .dK _ _ :: _, _, h => by cases h
  | .dT _ _ :: _, _, h => by cases h
theorem rep_ints {K : PySem.W.Frag} {B : Hp} {ρ : List Addr} {G : Hp} : ∀ {ns : List Int} {vs : List V}, Reps K B ρ G (ns.map D.int) vs → vs = ns.map V.int
  | [], _, h => h
  | n :: ns, _, ⟨v, r, e, h1, h2⟩ => by
    subst e
    cases h1
    rw [rep_ints h2]
    rfl
theorem rep_bools {K : PySem.W.Frag} {B : Hp} {ρ : List Addr} {G : Hp} : ∀ {ns : List Bool} {vs : List V}, Reps K B ρ G (ns.map D.bl) vs → vs = ns.map V.bl
  | [], _, h => h
  | n :: ns, _, ⟨v, r, e, h1, h2⟩ => by
    subst e
    cases h1
    rw [rep_bools h2]
    rfl
/-- the greatest, the least -/
def imax : List Int → Int
  | [] => 0
  | [x] => x
  | x :: y :: r => max x (imax (y :: r))
def imin : List Int → Int
  | [] => 0
  | [x] => x
  | x :: y :: r => min x (imin (y :: r))
theorem imax_mem : ∀ {xs : List Int}, xs ≠ [] → imax xs ∈ xs
  | [], h => absurd rfl h
  | [x], _ => List.mem_cons_self
  | x :: y :: r, _ => by
    have ih := imax_mem (xs := y :: r) (by simp)
    show max x (imax (y :: r)) ∈ x :: y :: r
    by_cases h : x ≤ imax (y :: r)
    · rw [Int.max_eq_right h]
      exact List.mem_cons_of_mem _ ih
    · rw [Int.max_eq_left (by omega)]
      exact List.mem_cons_self
theorem imax_le : ∀ {xs : List Int} {y : Int}, y ∈ xs → y ≤ imax xs
  | [], y, h => by cases h
  | [x], y, h => by
    have : y = x := by simpa using h
    rw [this]
    exact Int.le_refl _
  | x :: z :: r, y, h => by
    show y ≤ max x (imax (z :: r))
    rcases List.mem_cons.mp h with e | h
    · rw [e]
      exact Int.le_max_left _ _
    · exact Int.le_trans (imax_le h) (Int.le_max_right _ _)
theorem imin_mem : ∀ {xs : List Int}, xs ≠ [] → imin xs ∈ xs
  | [], h => absurd rfl h
  | [x], _ => List.mem_cons_self
  | x :: y :: r, _ => by
    have ih := imin_mem (xs := y :: r) (by simp)
    show min x (imin (y :: r)) ∈ x :: y :: r
    by_cases h : x ≤ imin (y :: r)
    · rw [Int.min_eq_left h]
      exact List.mem_cons_self
    · rw [Int.min_eq_right (by omega)]
      exact List.mem_cons_of_mem _ ih
theorem imin_le : ∀ {xs : List Int} {y : Int}, y ∈ xs → imin xs ≤ y
  | [], y, h => by cases h
  | [x], y, h => by
    have : y = x := by simpa using h
    rw [this]
    exact Int.le_refl _
  | x :: z :: r, y, h => by
    show min x (imin (z :: r)) ≤ y
    rcases List.mem_cons.mp h with e | h
    · rw [e]
      exact Int.min_le_left _ _
    · exact Int.le_trans (Int.min_le_right _ _) (imin_le h)
/-- sorted by putting in -/
def put (x : Int) : List Int → List Int
  | [] => [x]
  | y :: r => if x ≤ y then x :: y :: r else y :: put x r
def isort : List Int → List Int
  | [] => []
  | x :: r => put x (isort r)
theorem put_perm (x : Int) : ∀ r : List Int, (put x r).Perm (x :: r)
  | [] => .refl _
  | y :: r => by
    unfold put
    split
    · exact .refl _
    · exact ((put_perm x r).cons y).trans (.swap x y r)
theorem isort_perm : ∀ r : List Int, (isort r).Perm r
  | [] => .refl _
  | x :: r => (put_perm x _).trans ((isort_perm r).cons x)
theorem put_sorted (x : Int) : ∀ {r : List Int}, r.Pairwise (· ≤ ·) → (put x r).Pairwise (· ≤ ·)
  | [], _ => by simp [put]
  | y :: r, h => by
    have h' := List.pairwise_cons.mp h
    unfold put
    split
    · rename_i hxy
      refine List.pairwise_cons.mpr ⟨fun z hz => ?_, h⟩
      rcases List.mem_cons.mp hz with e | hz
      · rw [e]
        exact hxy
      · exact Int.le_trans hxy (h'.1 z hz)
    · rename_i hxy
      refine List.pairwise_cons.mpr ⟨fun z hz => ?_, put_sorted x h'.2⟩
      rcases List.mem_cons.mp ((put_perm x r).mem_iff.mp hz) with e | hz
      · rw [e]
        omega
      · exact h'.1 z hz
theorem isort_sorted : ∀ r : List Int, (isort r).Pairwise (· ≤ ·)
  | [] => .nil
  | x :: r => put_sorted x (isort_sorted r)
inductive BI where
  | len | list | tuple | sum | max | min | max2 | min2 | all | any | sorted | int | divmod | strI
def BI.val : BI → Value
  | .strI => .type "str" | .list => .type "list" | .tuple => .type "tuple" | .int => .type "int"
  | .len => .builtin "len" | .sum => .builtin "sum" | .max => .builtin "max" | .max2 => .builtin "max" | .min => .builtin "min" | .min2 => .builtin "min" | .all => .builtin "all" | .any => .builtin "any" | .sorted => .builtin "sorted" | .divmod => .builtin "divmod"
def BI.nm : BI → Str
  | .strI => "str" | .list => "list" | .tuple => "tuple" | .int => "int"
  | .len => "len" | .sum => "sum" | .max => "max" | .max2 => "max" | .min => "min" | .min2 => "min" | .all => "all" | .any => "any" | .sorted => "sorted" | .divmod => "divmod"
def bLen (ds : List D) (μ : Sto) : R D := match ds with
  | [.tup xs] => ok (.int (xs.length : Int)) μ
  | [.str x] => if x.length ≤ LIM then ok (.int (x.length : Int)) μ else none
  | [d] => match seeL μ d with
    | some xs => ok (.int (xs.length : Int)) μ
    | none => none
  | _ => none
def bList (lv : Bool) (ds : List D) (μ : Sto) : R D := match ds with
  | [.tup xs] => alloc lv xs μ
  | [d] => match seeL μ d with
    | some xs => alloc lv xs μ
    | none => none
  | _ => none
def bTuple (ds : List D) (μ : Sto) : R D := match ds with
  | [d] => match seeL μ d with
    | some xs => ok (.tup xs) μ
    | none => none
  | _ => none
def bInts (g : List Int → Int) (ds : List D) (μ : Sto) : R D := match ds with
  | [d] => match (seeL μ d).bind intsD with
    | some (x :: r) => ok (.int (g (x :: r))) μ
    | _ => none
  | _ => none
def bSum (ds : List D) (μ : Sto) : R D := match ds with
  | [d] => match (seeL μ d).bind intsD with
    | some xs => ok (.int xs.sum) μ
    | none => none
  | _ => none
def bBools (g : List Bool → Bool) (ds : List D) (μ : Sto) : R D := match ds with
  | [d] => match (seeL μ d).bind boolsD with
    | some xs => ok (.bl (g xs)) μ
    | none => none
  | _ => none
def bSorted (lv : Bool) (ds : List D) (μ : Sto) : R D := match ds with
  | [d] => match (seeL μ d).bind intsD with
    | some xs => alloc lv ((isort xs).map D.int) μ
    | none => none
  | _ => none
def bTwo (g : Int → Int → Int) (ds : List D) (μ : Sto) : R D := match ds with
  | [.int i, .int j] => ok (.int (g i j)) μ
  | _ => none
def bInt (ds : List D) (μ : Sto) : R D := match ds with
  | [.int i] => ok (.int i) μ
  | [.bl b] => ok (.int (if b then 1 else 0)) μ
  | [.str z] => if z.length ≤ 640 then match PySem.intText? z with
    | some n => ok (.int n) μ
    | none => none
    else none
  | _ => none
def small1900 (i : Int) : Bool := decide (i.natAbs < 2 ^ 1900)
def bStrI (ds : List D) (μ : Sto) : R D := match ds with
  | [.int i] => if small1900 i = true then ok (.str (toString i)) μ else none
  | _ => none
def bDivmod (ds : List D) (μ : Sto) : R D := match ds with
  | [.int i, .int j] => if (decide (0 < j) && fits i && fits j) = true then ok (.tup [.int (i / j), .int (i % j)]) μ else none
  | _ => none
def BI.d (lv : Bool) : BI → List D → Sto → R D
  | .len => bLen | .list => bList lv | .tuple => bTuple | .sum => bSum | .max => bInts imax | .min => bInts imin | .max2 => bTwo fun i j => if j > i then j else i | .min2 => bTwo fun i j => if j < i then j else i
  | .all => bBools (·.all id) | .any => bBools (·.any id) | .sorted => bSorted lv | .int => bInt | .divmod => bDivmod | .strI => bStrI
def BI.r (K : PySem.W.Frag) : BI → List V → Hp → VK → Prop
  | .len => fun xs H Q => (∃ p ys, xs = [.ref p] ∧ (SqL K H p ys ∨ SqT K H p ys) ∧ Q (.int ys.length) H) ∨ ∃ z, xs = [.str z] ∧ z.length ≤ sizeLine ∧ Q (.int z.length) H
  | .list => fun xs H Q => ∃ p ys, xs = [.ref p] ∧ (SqL K H p ys ∨ SqT K H p ys) ∧ ∀ l, H l = none → Q (.ref l) (upd H l (.lst ys))
  | .tuple => fun xs H Q => ∃ p ys, xs = [.ref p] ∧ ((SqL K H p ys ∧ ∀ l, H l = none → Q (.ref l) (upd H l (.tup ys))) ∨ (SqT K H p ys ∧ Q (.ref p) H))
  | .sum => rSum K | .max => rMax K | .min => rMin K
  | .max2 => fun xs H Q => ∃ i j, xs = [.int i, .int j] ∧ Q (.int (if j > i then j else i)) H
  | .min2 => fun xs H Q => ∃ i j, xs = [.int i, .int j] ∧ Q (.int (if j < i then j else i)) H
  | .all => rAll K | .any => rAny K | .sorted => rSortedI K
  | .int => fun xs H Q => ((∃ i, xs = [.int i] ∧ Q (.int i) H) ∨ ∃ k, xs = [.bl k] ∧ Q (.int (if k then 1 else 0)) H) ∨ ∃ a n, xs = [.str a] ∧ PySem.intText? a = some n ∧ a.length ≤ 640 ∧ Q (.int n) H
  | .strI => fun xs H Q => ∃ i, xs = [.int i] ∧ i.natAbs.log2 < 1920 ∧ Q (.str (toString i)) H
  | .divmod => fun xs H Q => ∃ i j, xs = [.int i, .int j] ∧ CDivP i j ∧ ∀ p, H p = none → Q (.ref p) (upd H p (.tup [.int (i / j), .int (i % j)]))
theorem BI.callR {X : Cx} (hc : X.calm = true) (b : BI) : CallR X b.val (b.r X.K) := by
  cases b with
  | len => exact CallR.or call_len_seq call_len_str
  | list => exact call_list_of
  | tuple => exact call_tuple_of
  | sum => exact cr_sum hc
  | max => exact cr_max hc
  | min => exact cr_min hc
  | max2 => exact call_max2 hc
  | min2 => exact call_min2 hc
  | all => exact cr_all hc
  | any => exact cr_any hc
  | sorted => exact cr_sortedI
  | int => exact CallR.or call_int1 call_int_str
  | strI => exact call_str_int
  | divmod => exact call_divmodW
/-- a call's rule by an operation on data -/
def CbD (K : PySem.W.Frag) (E : XK) (r : List V → Hp → VK → Prop) (op : List D → Sto → R D) : Prop := ∀ (c : Ct) (ρ : List Addr) (G H : Hp) (μ : Sto) (ds : List D) (vs : List V) (Q : VK), c.K = K → Rel c ρ G μ H → Reps K c.B ρ G ds vs →
  Fin c E ρ G (op ds μ) (fun d ρ' G' _ H' => ∀ v, Rep K c.B ρ' G' d v → Q v H') → r vs H Q
theorem bind_ints {μ : Sto} {d : D} {ns : List Int} (h : (seeL μ d).bind intsD = some ns) : seeL μ d = some (ns.map D.int) := by
  cases e : seeL μ d with
  | none =>
    rw [e] at h
    cases h
  | some xs =>
    rw [e] at h
    rw [ints_eq h]
theorem bind_bools {μ : Sto} {d : D} {ns : List Bool} (h : (seeL μ d).bind boolsD = some ns) : seeL μ d = some (ns.map D.bl) := by
  cases e : seeL μ d with
  | none =>
    rw [e] at h
    cases h
  | some xs =>
    rw [e] at h
    rw [bools_eq h]
theorem reps1 {K : PySem.W.Frag} {B : Hp} {ρ : List Addr} {G : Hp} {d : D} {vs : List V} (h : Reps K B ρ G [d] vs) : ∃ v, vs = [v] ∧ Rep K B ρ G d v := by
  obtain ⟨v, r, e, h1, h2⟩ := h
  cases h2
  exact ⟨v, e, h1⟩
theorem reps2 {K : PySem.W.Frag} {B : Hp} {ρ : List Addr} {G : Hp} {d e : D} {vs : List V} (h : Reps K B ρ G [d, e] vs) : ∃ v u, vs = [v, u] ∧ Rep K B ρ G d v ∧ Rep K B ρ G e u := by
  obtain ⟨v, r, q, h1, h2⟩ := h
  obtain ⟨u, rfl, h3⟩ := reps1 h2
  exact ⟨v, u, q, h1, h3⟩
theorem BI.ok {K : PySem.W.Frag} {E : XK} (lv : Bool) (b : BI) : CbD K E (b.r K) (b.d lv) := by
  intro c ρ G H μ ds vs Q hK r hs h
  subst hK
  have onInts : ∀ {d : D} {ns : List Int} {v : V}, (seeL μ d).bind intsD = some ns → Rep c.K c.B ρ G d v → ∃ a, v = .ref a ∧ SqL c.K H a (ns.map V.int) := fun {d ns v} e hv => by
    obtain ⟨a, us, rfl, h1, h2⟩ := seeL_ok r (bind_ints e) hv
    rw [rep_ints h2] at h1
    exact ⟨a, rfl, h1⟩
  cases b with
  | len =>
    replace h : Fin c E ρ G ((bLen) ds μ) (fun d ρ' G' _ H' => ∀ v, Rep c.K c.B ρ' G' d v → Q v H') := h
    unfold bLen at h
    split at h
    · obtain ⟨v, rfl, hv⟩ := reps1 hs
      obtain ⟨a, us, rfl, h1, h2⟩ := tup_ok r hv
      refine .inl ⟨a, us, rfl, .inr h1, ?_⟩
      rw [← h2.length]
      exact val_use (d := .int _) (v := .int _) rfl r rfl h
    · split at h
      · rename_i hl
        obtain ⟨v, rfl, hv⟩ := reps1 hs
        cases hv
        exact .inr ⟨_, rfl, lim_size hl, val_use (d := .int _) (v := .int _) rfl r rfl h⟩
      · exact fin_none h
    · split at h
      · rename_i xs e1
        obtain ⟨v, rfl, hv⟩ := reps1 hs
        obtain ⟨a, us, rfl, h1, h2⟩ := seeL_ok r e1 hv
        refine .inl ⟨a, us, rfl, .inl h1, ?_⟩
        rw [← h2.length]
        exact val_use (d := .int _) (v := .int _) rfl r rfl h
      · exact fin_none h
    · exact fin_none h
  | list =>
    replace h : Fin c E ρ G ((bList lv) ds μ) (fun d ρ' G' _ H' => ∀ v, Rep c.K c.B ρ' G' d v → Q v H') := h
    unfold bList at h
    split at h
    · obtain ⟨v, rfl, hv⟩ := reps1 hs
      obtain ⟨a, us, rfl, h1, h2⟩ := tup_ok r hv
      exact ⟨a, us, rfl, .inr h1, fun p hp => alloc_use rfl r h2 hp h⟩
    · split at h
      · rename_i xs e1
        obtain ⟨v, rfl, hv⟩ := reps1 hs
        obtain ⟨a, us, rfl, h1, h2⟩ := seeL_ok r e1 hv
        exact ⟨a, us, rfl, .inl h1, fun p hp => alloc_use rfl r h2 hp h⟩
      · exact fin_none h
    · exact fin_none h
  | tuple =>
    replace h : Fin c E ρ G ((bTuple) ds μ) (fun d ρ' G' _ H' => ∀ v, Rep c.K c.B ρ' G' d v → Q v H') := h
    unfold bTuple at h
    split at h
    · split at h
      · rename_i xs e1
        obtain ⟨v, rfl, hv⟩ := reps1 hs
        obtain ⟨a, us, rfl, h1, h2⟩ := seeL_ok r e1 hv
        exact ⟨a, us, rfl, .inl ⟨h1, fun p hp => tup_use rfl r h2 hp h⟩⟩
      · exact fin_none h
    · exact fin_none h
  | sum =>
    replace h : Fin c E ρ G ((bSum) ds μ) (fun d ρ' G' _ H' => ∀ v, Rep c.K c.B ρ' G' d v → Q v H') := h
    unfold bSum at h
    split at h
    · split at h
      · rename_i xs e1
        obtain ⟨v, rfl, hv⟩ := reps1 hs
        obtain ⟨a, rfl, h1⟩ := onInts e1 hv
        exact ⟨a, xs, rfl, h1, val_use (d := .int _) (v := .int _) rfl r rfl h⟩
      · exact fin_none h
    · exact fin_none h
  | max =>
    replace h : Fin c E ρ G ((bInts imax) ds μ) (fun d ρ' G' _ H' => ∀ v, Rep c.K c.B ρ' G' d v → Q v H') := h
    unfold bInts at h
    split at h
    · split at h
      · rename_i x xs e1
        obtain ⟨v, rfl, hv⟩ := reps1 hs
        obtain ⟨a, rfl, h1⟩ := onInts e1 hv
        refine ⟨a, _, rfl, h1, Nat.succ_pos _, fun m hm hle => ?_⟩
        have e : m = imax (x :: xs) := Int.le_antisymm (imax_le hm) (hle _ (imax_mem (by simp)))
        rw [e]
        exact val_use (d := .int _) (v := .int _) rfl r rfl h
      · exact fin_none h
    · exact fin_none h
  | min =>
    replace h : Fin c E ρ G ((bInts imin) ds μ) (fun d ρ' G' _ H' => ∀ v, Rep c.K c.B ρ' G' d v → Q v H') := h
    unfold bInts at h
    split at h
    · split at h
      · rename_i x xs e1
        obtain ⟨v, rfl, hv⟩ := reps1 hs
        obtain ⟨a, rfl, h1⟩ := onInts e1 hv
        refine ⟨a, _, rfl, h1, Nat.succ_pos _, fun m hm hle => ?_⟩
        have e : m = imin (x :: xs) := Int.le_antisymm (hle _ (imin_mem (by simp))) (imin_le hm)
        rw [e]
        exact val_use (d := .int _) (v := .int _) rfl r rfl h
      · exact fin_none h
    · exact fin_none h
  | max2 =>
    replace h : Fin c E ρ G ((bTwo (fun i j => if j > i then j else i)) ds μ) (fun d ρ' G' _ H' => ∀ v, Rep c.K c.B ρ' G' d v → Q v H') := h
    unfold bTwo at h
    split at h
    · obtain ⟨v, u, rfl, hv, hu⟩ := reps2 hs
      cases hv
      cases hu
      exact ⟨_, _, rfl, val_use (d := .int _) (v := .int _) rfl r rfl h⟩
    · exact fin_none h
  | min2 =>
    replace h : Fin c E ρ G ((bTwo (fun i j => if j < i then j else i)) ds μ) (fun d ρ' G' _ H' => ∀ v, Rep c.K c.B ρ' G' d v → Q v H') := h
    unfold bTwo at h
    split at h
    · obtain ⟨v, u, rfl, hv, hu⟩ := reps2 hs
      cases hv
      cases hu
      exact ⟨_, _, rfl, val_use (d := .int _) (v := .int _) rfl r rfl h⟩
    · exact fin_none h
  | all =>
    replace h : Fin c E ρ G ((bBools (·.all id)) ds μ) (fun d ρ' G' _ H' => ∀ v, Rep c.K c.B ρ' G' d v → Q v H') := h
    unfold bBools at h
    split at h
    · split at h
      · rename_i xs e1
        obtain ⟨v, rfl, hv⟩ := reps1 hs
        obtain ⟨a, us, rfl, h1, h2⟩ := seeL_ok r (bind_bools e1) hv
        rw [rep_bools h2] at h1
        exact ⟨a, xs, rfl, h1, val_use (d := .bl _) (v := .bl _) rfl r rfl h⟩
      · exact fin_none h
    · exact fin_none h
  | any =>
    replace h : Fin c E ρ G ((bBools (·.any id)) ds μ) (fun d ρ' G' _ H' => ∀ v, Rep c.K c.B ρ' G' d v → Q v H') := h
    unfold bBools at h
    split at h
    · split at h
      · rename_i xs e1
        obtain ⟨v, rfl, hv⟩ := reps1 hs
        obtain ⟨a, us, rfl, h1, h2⟩ := seeL_ok r (bind_bools e1) hv
        rw [rep_bools h2] at h1
        exact ⟨a, xs, rfl, h1, val_use (d := .bl _) (v := .bl _) rfl r rfl h⟩
      · exact fin_none h
    · exact fin_none h
  | sorted =>
    replace h : Fin c E ρ G ((bSorted lv) ds μ) (fun d ρ' G' _ H' => ∀ v, Rep c.K c.B ρ' G' d v → Q v H') := h
    unfold bSorted at h
    split at h
    · split at h
      · rename_i xs e1
        obtain ⟨v, rfl, hv⟩ := reps1 hs
        obtain ⟨a, rfl, h1⟩ := onInts e1 hv
        refine ⟨a, xs, rfl, h1, fun ns p hp ho hn => ?_⟩
        have e : ns = isort xs := PySem.W.ksm_same (hp.trans (isort_perm xs).symm) ho (isort_sorted xs)
        rw [e]
        exact alloc_use rfl r Reps.ints hn h
      · exact fin_none h
    · exact fin_none h
  | int =>
    replace h : Fin c E ρ G ((bInt) ds μ) (fun d ρ' G' _ H' => ∀ v, Rep c.K c.B ρ' G' d v → Q v H') := h
    unfold bInt at h
    split at h
    · obtain ⟨v, rfl, hv⟩ := reps1 hs
      cases hv
      exact .inl (.inl ⟨_, rfl, val_use (d := .int _) (v := .int _) rfl r rfl h⟩)
    · obtain ⟨v, rfl, hv⟩ := reps1 hs
      cases hv
      exact .inl (.inr ⟨_, rfl, val_use (d := .int _) (v := .int _) rfl r rfl h⟩)
    · obtain ⟨v, rfl, hv⟩ := reps1 hs
      cases hv
      split at h
      · rename_i hl
        split at h
        · rename_i n e1
          exact .inr ⟨_, _, rfl, e1, hl, val_use (d := .int _) (v := .int _) rfl r rfl h⟩
        · exact fin_none h
      · exact fin_none h
    · exact fin_none h
  | strI =>
    replace h : Fin c E ρ G ((bStrI) ds μ) (fun d ρ' G' _ H' => ∀ v, Rep c.K c.B ρ' G' d v → Q v H') := h
    unfold bStrI at h
    split at h
    · split at h
      · rename_i i hl
        obtain ⟨v, rfl, hv⟩ := reps1 hs
        cases hv
        have hl' : i.natAbs < 2 ^ 1900 := of_decide_eq_true hl
        have : i.natAbs.log2 < 1900 := PySem.Flt.log2_lt_of (by decide) hl'
        exact ⟨i, rfl, by omega, val_use (d := .str _) (v := .str _) rfl r rfl h⟩
      · exact fin_none h
    · exact fin_none h
  | divmod =>
    replace h : Fin c E ρ G ((bDivmod) ds μ) (fun d ρ' G' _ H' => ∀ v, Rep c.K c.B ρ' G' d v → Q v H') := h
    unfold bDivmod at h
    split at h
    · split at h
      · rename_i i j hf
        rw [Bool.and_eq_true, Bool.and_eq_true] at hf
        obtain ⟨v, u, rfl, hv, hu⟩ := reps2 hs
        cases hv
        cases hu
        refine ⟨_, _, rfl, divp_ok (of_decide_eq_true hf.1.1) ?_, fun p hp => tup_use (xs := [.int (i / j), .int (i % j)]) rfl r ⟨_, _, rfl, rfl, _, _, rfl, rfl, rfl⟩ hp h⟩
        have b1 : Builtin.Int.intBits i ≤ i.natAbs.log2 + 1 := by
          unfold Builtin.Int.intBits
          split <;> omega
        have b2 := fits_log hf.1.2
        have b3 : 0 < Builtin.Int.intBits j := by
          have h0 : ¬ (j == 0) = true := by
            have := of_decide_eq_true hf.1.1
            simp
            omega
          unfold Builtin.Int.intBits
          rw [if_neg h0]
          omega
        omega
      · exact fin_none h
    · exact fin_none h
theorem tx_cb {K : PySem.W.Frag} {mg : Str → Option Value} {E : XK} {r : List V → Hp → VK → Prop} {op : List D → Sto → R D} {fs : FEs} (ho : CbD K E r op) : ∀ σ H Q, TX K mg E (fun env μ => rb (fs env μ) op) σ H Q → tCB r (TXs K mg E fs) σ H Q := by
  rintro σ H Q ⟨c, env, ρ, G, μ, hK, hm, re, eo, h⟩
  exact txs_use hK hm re eo h fun ds vs ρ1 G1 μ1 H1 p1 e1 r1 eo1 hv h1 => ho c ρ1 G1 H1 μ1 ds vs Q hK r1 hv h1
end Lv
set_option Elab.async false
set_option linter.all false
set_option maxRecDepth 100000
set_option autoImplicit false
/-! calls of the text's own defs, displays, logic, isinstance -/
namespace Lv
open PySem PySem.Spec PyProof.Rows L2
/-! ### data that holds nothing of the caller's, data lent -/
mutual
def D.clean : D → Bool
  | .lst b xs => !b && D.cleans xs
  | .tup xs => D.cleans xs
  | .ref _ => false
  | .scr _ => false
  | .dK b kvs => !b && D.cleanK kvs
  | .dT b kvs => !b && D.cleanT kvs
  | _ => true
def D.cleans : List D → Bool
  | [] => true
  | x :: r => x.clean && D.cleans r
def D.cleanK : List (Key × D) → Bool
  | [] => true
  | (_, x) :: r => x.clean && D.cleanK r
def D.cleanT : List (List Key × D) → Bool
  | [] => true
  | (_, x) :: r => x.clean && D.cleanT r
end
section
variable {K : PySem.W.Frag} {B B' : Hp} {ρ ρ' : List Addr} {G : Hp}
mutual
theorem Rep.clean : ∀ (d : D) (v : V), d.clean = true → Rep K B ρ G d v → Rep K B' ρ' G d v
  | .non, _, _, h => h
  | .bl _, _, _, h => h
  | .int _, _, _, h => h
  | .str _, _, _, h => h
  | .scr _, _, c, _ => nomatch c
  | .ref _, _, c, _ => nomatch c
  | .lst b xs, _, c, ⟨a, vs, e1, e2, h⟩ => by
    have c' : (!b && D.cleans xs) = true := c
    rw [Bool.and_eq_true] at c'
    cases b with
    | true => exact absurd c'.1 (by decide)
    | false => exact ⟨a, vs, e1, e2, Reps.clean xs vs c'.2 h⟩
  | .tup xs, _, c, ⟨a, vs, e1, e2, h⟩ => ⟨a, vs, e1, e2, Reps.clean xs vs c h⟩
  | .dK b kvs, _, c, ⟨a, ws, e1, e2, h⟩ => by
    have c' : (!b && D.cleanK kvs) = true := c
    rw [Bool.and_eq_true] at c'
    cases b with
    | true => exact absurd c'.1 (by decide)
    | false => exact ⟨a, ws, e1, e2, RepK.clean kvs ws c'.2 h⟩
  | .dT b kvs, _, c, ⟨a, ws, e1, e2, h⟩ => by
    have c' : (!b && D.cleanT kvs) = true := c
    rw [Bool.and_eq_true] at c'
    cases b with
    | true => exact absurd c'.1 (by decide)
    | false => exact ⟨a, ws, e1, e2, RepT.clean kvs ws c'.2 h⟩
theorem Reps.clean : ∀ (ds : List D) (vs : List V), D.cleans ds = true → Reps K B ρ G ds vs → Reps K B' ρ' G ds vs
  | [], _, _, h => h
  | d :: ds, _, c, ⟨v, r, e1, h1, h2⟩ => by
    have c' : (d.clean && D.cleans ds) = true := c
    rw [Bool.and_eq_true] at c'
    exact ⟨v, r, e1, Rep.clean d v c'.1 h1, Reps.clean ds r c'.2 h2⟩
theorem RepK.clean : ∀ (ds : List (Key × D)) (vs : List (Key × V)), D.cleanK ds = true → RepK K B ρ G ds vs → RepK K B' ρ' G ds vs
  | [], _, _, h => h
  | (_, d) :: ds, _, c, ⟨v, r, e1, h1, h2⟩ => by
    have c' : (d.clean && D.cleanK ds) = true := c
    rw [Bool.and_eq_true] at c'
    exact ⟨v, r, e1, Rep.clean d v c'.1 h1, RepK.clean ds r c'.2 h2⟩
theorem RepT.clean : ∀ (ds : List (List Key × D)) (vs : List (List Key × V)), D.cleanT ds = true → RepT K B ρ G ds vs → RepT K B' ρ' G ds vs
  | [], _, _, h => h
  | (_, d) :: ds, _, c, ⟨v, r, e1, h1, h2⟩ => by
    have c' : (d.clean && D.cleanT ds) = true := c
    rw [Bool.and_eq_true] at c'
    exact ⟨v, r, e1, Rep.clean d v c'.1 h1, RepT.clean ds r c'.2 h2⟩
end
end
def okv {κ : Type} (f : D → Option D) : List (κ × D) → Option (List (κ × D))
  | [] => some []
  | (k, x) :: r => match f x, okv f r with
    | some y, some s => some ((k, y) :: s)
    | _, _ => none
/-- the data as it is lent: no cells, each list one of the heap ahead of the call -/
def lend (μ : Sto) : Nat → D → Option D
  | _, .non => some .non
  | _, .bl b => some (.bl b)
  | _, .int i => some (.int i)
  | _, .str x => some (.str x)
  | _, .scr xs => some (.scr xs)
  | n + 1, .lst _ xs => (omap (lend μ n) xs).map (.lst true)
  | n + 1, .tup xs => (omap (lend μ n) xs).map .tup
  | n + 1, .ref k => match μ[k]? with
    | some (.lst _ xs) => (omap (lend μ n) xs).map (.lst true)
    | some (.dK _ xs) => (okv (lend μ n) xs).map (.dK true)
    | some (.dT _ xs) => (okv (lend μ n) xs).map (.dT true)
    | _ => none
  | n + 1, .dK _ xs => (okv (lend μ n) xs).map (.dK true)
  | n + 1, .dT _ xs => (okv (lend μ n) xs).map (.dT true)
  | _, _ => none
theorem see_ref {μ : Sto} {k : Nat} {m : Mode} {xs : List D} (e : μ[k]? = some (.lst m xs)) : see μ (.ref k) = some xs := by simp only [see, e]
section
variable {c : Ct} {ρ : List Addr} {G H : Hp} {μ : Sto}
theorem seeK_ok (r : Rel c ρ G μ H) {k : Nat} {m : Mode} {kvs : List (Key × D)} {v : V} (e : μ[k]? = some (.dK m kvs)) (hv : Rep c.K c.B ρ G (.ref k) v) : ∃ a ws, v = .ref a ∧ H a = some (.dK ws) ∧ RepK c.K c.B ρ G kvs ws := by
  obtain ⟨a, e1, h1⟩ := hv
  have hc := r.cl k a _ h1 e
  cases m with
  | fz =>
    obtain ⟨ws, q1, q2⟩ := hc
    exact ⟨a, ws, e1, r.gh _ _ q1, q2⟩
  | live =>
    obtain ⟨_, _, ws, q1, q2⟩ := hc
    exact ⟨a, ws, e1, q1, q2⟩
  | lock =>
    obtain ⟨_, _, ws, q1, q2⟩ := hc
    exact ⟨a, ws, e1, q1, q2⟩
theorem seeT_ok (r : Rel c ρ G μ H) {k : Nat} {m : Mode} {kvs : List (List Key × D)} {v : V} (e : μ[k]? = some (.dT m kvs)) (hv : Rep c.K c.B ρ G (.ref k) v) : ∃ a ws, v = .ref a ∧ H a = some (.dT ws) ∧ RepT c.K c.B ρ G kvs ws := by
  obtain ⟨a, e1, h1⟩ := hv
  have hc := r.cl k a _ h1 e
  cases m with
  | fz =>
    obtain ⟨ws, q1, q2⟩ := hc
    exact ⟨a, ws, e1, r.gh _ _ q1, q2⟩
  | live =>
    obtain ⟨_, _, ws, q1, q2⟩ := hc
    exact ⟨a, ws, e1, q1, q2⟩
  | lock =>
    obtain ⟨_, _, ws, q1, q2⟩ := hc
    exact ⟨a, ws, e1, q1, q2⟩
theorem lend_all {f : D → Option D} (ih : ∀ d v d', f d = some d' → Rep c.K c.B ρ G d v → Rep c.K H [] G d' v) : ∀ (xs : List D) (vs : List V) (ys : List D), omap f xs = some ys → Reps c.K c.B ρ G xs vs → Reps c.K H [] G ys vs
  | [], _, _, h, q => by
    cases h
    exact q
  | d :: xs, _, ys, h, ⟨v, r, e1, h1, h2⟩ => by
    unfold omap at h
    cases e : f d with
    | none =>
      rw [e] at h
      cases h
    | some y =>
      cases e' : omap f xs with
      | none =>
        rw [e, e'] at h
        cases h
      | some s =>
        rw [e, e'] at h
        cases h
        exact ⟨v, r, e1, ih d v y e h1, lend_all ih xs r s e' h2⟩
theorem lend_allK {f : D → Option D} (ih : ∀ d v d', f d = some d' → Rep c.K c.B ρ G d v → Rep c.K H [] G d' v) : ∀ (xs : List (Key × D)) (vs : List (Key × V)) (ys : List (Key × D)), okv f xs = some ys → RepK c.K c.B ρ G xs vs → RepK c.K H [] G ys vs
  | [], _, _, h, q => by
    cases h
    exact q
  | (k, d) :: xs, _, ys, h, ⟨v, r, e1, h1, h2⟩ => by
    unfold okv at h
    cases e : f d with
    | none =>
      simp only [e] at h
      cases h
    | some y =>
      cases e' : okv f xs with
      | none =>
        simp only [e, e'] at h
        cases h
      | some s =>
        simp only [e, e'] at h
        cases h
        exact ⟨v, r, e1, ih d v y e h1, lend_allK ih xs r s e' h2⟩
theorem lend_allT {f : D → Option D} (ih : ∀ d v d', f d = some d' → Rep c.K c.B ρ G d v → Rep c.K H [] G d' v) : ∀ (xs : List (List Key × D)) (vs : List (List Key × V)) (ys : List (List Key × D)), okv f xs = some ys → RepT c.K c.B ρ G xs vs → RepT c.K H [] G ys vs
  | [], _, _, h, q => by
    cases h
    exact q
  | (k, d) :: xs, _, ys, h, ⟨v, r, e1, h1, h2⟩ => by
    unfold okv at h
    cases e : f d with
    | none =>
      simp only [e] at h
      cases h
    | some y =>
      cases e' : okv f xs with
      | none =>
        simp only [e, e'] at h
        cases h
      | some s =>
        simp only [e, e'] at h
        cases h
        exact ⟨v, r, e1, ih d v y e h1, lend_allT ih xs r s e' h2⟩
theorem map_some {α β : Type} {f : α → β} {o : Option α} {b : β} (h : o.map f = some b) : ∃ a, o = some a ∧ f a = b := by
  cases o with
  | none => cases h
  | some a => exact ⟨a, rfl, Option.some.inj h⟩
theorem lend_ok (r : Rel c ρ G μ H) : ∀ (n : Nat) (d : D) (v : V) (d' : D), lend μ n d = some d' → Rep c.K c.B ρ G d v → Rep c.K H [] G d' v := by
  intro n
  induction n with
  | zero =>
    intro d v d' h q
    cases d with
    | non => cases h; exact q
    | bl _ => cases h; exact q
    | int _ => cases h; exact q
    | str _ => cases h; exact q
    | scr xs =>
      cases h
      obtain ⟨a, e, hs⟩ := q
      exact ⟨a, e, sql_up r.bh hs⟩
    | _ => cases h
  | succ n ih =>
    intro d v d' h q
    cases d with
    | non => cases h; exact q
    | bl _ => cases h; exact q
    | int _ => cases h; exact q
    | str _ => cases h; exact q
    | scr xs =>
      cases h
      obtain ⟨a, e, hs⟩ := q
      exact ⟨a, e, sql_up r.bh hs⟩
    | lst b xs =>
      obtain ⟨ys, e1, e2⟩ := map_some (show (omap (lend μ n) xs).map (D.lst true) = some d' from h)
      subst e2
      obtain ⟨a, vs, rfl, q1, q2⟩ := see_ok r (d := .lst b xs) rfl q
      exact ⟨a, vs, rfl, q1, lend_all ih xs vs ys e1 q2⟩
    | tup xs =>
      obtain ⟨ys, e1, e2⟩ := map_some (show (omap (lend μ n) xs).map D.tup = some d' from h)
      subst e2
      obtain ⟨a, vs, rfl, q1, q2⟩ := q
      exact ⟨a, vs, rfl, q1, lend_all ih xs vs ys e1 q2⟩
    | dK b xs =>
      obtain ⟨ys, e1, e2⟩ := map_some (show (okv (lend μ n) xs).map (D.dK true) = some d' from h)
      subst e2
      obtain ⟨a, vs, rfl, q1, q2⟩ := q
      exact ⟨a, vs, rfl, pick_h r q1, lend_allK ih xs vs ys e1 q2⟩
    | dT b xs =>
      obtain ⟨ys, e1, e2⟩ := map_some (show (okv (lend μ n) xs).map (D.dT true) = some d' from h)
      subst e2
      obtain ⟨a, vs, rfl, q1, q2⟩ := q
      exact ⟨a, vs, rfl, pick_h r q1, lend_allT ih xs vs ys e1 q2⟩
    | ref k =>
      unfold lend at h
      split at h
      · rename_i m xs e0
        obtain ⟨ys, e1, e2⟩ := map_some h
        subst e2
        obtain ⟨a, vs, rfl, q1, q2⟩ := see_ok r (see_ref e0) q
        exact ⟨a, vs, rfl, q1, lend_all ih xs vs ys e1 q2⟩
      · rename_i m xs e0
        obtain ⟨ys, e1, e2⟩ := map_some h
        subst e2
        obtain ⟨a, vs, rfl, q1, q2⟩ := seeK_ok r e0 q
        exact ⟨a, vs, rfl, q1, lend_allK ih xs vs ys e1 q2⟩
      · rename_i m xs e0
        obtain ⟨ys, e1, e2⟩ := map_some h
        subst e2
        obtain ⟨a, vs, rfl, q1, q2⟩ := seeT_ok r e0 q
        exact ⟨a, vs, rfl, q1, lend_allT ih xs vs ys e1 q2⟩
      · cases h
end
/-! ### displays -/
def dLst (lv : Bool) (ds : List D) (μ : Sto) : R D := if ds.length ≤ LIM then alloc lv ds μ else none
def dTup (ds : List D) (μ : Sto) : R D := if ds.length ≤ LIM then ok (.tup ds) μ else none
def fNil : FEs := fun _ μ => ok [] μ
def fCons (f : FE) (fs : FEs) : FEs := fun env μ => rb (f env μ) fun d μ1 => rb (fs env μ1) fun ds μ2 => ok (d :: ds) μ2
section
variable {K : PySem.W.Frag} {mg : Str → Option Value} {E : XK}
theorem tx_lst {fs : FEs} (lv : Bool) : ∀ σ H Q, TX K mg E (fun env μ => rb (fs env μ) (dLst lv)) σ H Q → tLst (TXs K mg E fs) σ H Q := by
  rintro σ H Q ⟨c, env, ρ, G, μ, hK, hm, re, eo, h⟩
  refine txs_use hK hm re eo h fun ds vs ρ1 G1 μ1 H1 p1 e1 r1 eo1 hv h1 => ?_
  unfold dLst at h1
  split at h1
  · rename_i hl
    exact ⟨lim_size (by rw [← hv.length]; exact hl), fun p hp => alloc_use hK r1 hv hp h1⟩
  · exact fin_none h1
theorem tx_tup {fs : FEs} : ∀ σ H Q, TX K mg E (fun env μ => rb (fs env μ) dTup) σ H Q → tTup (TXs K mg E fs) σ H Q := by
  rintro σ H Q ⟨c, env, ρ, G, μ, hK, hm, re, eo, h⟩
  refine txs_use hK hm re eo h fun ds vs ρ1 G1 μ1 H1 p1 e1 r1 eo1 hv h1 => ?_
  unfold dTup at h1
  split at h1
  · rename_i hl
    exact ⟨lim_size (by rw [← hv.length]; exact hl), fun p hp => tup_use hK r1 hv hp h1⟩
  · exact fin_none h1
theorem txs_nil : ∀ σ H Q, TXs K mg E fNil σ H Q → tNil σ H Q := by
  rintro σ H Q ⟨c, env, ρ, G, μ, hK, hm, re, eo, h⟩
  exact Fin.ok re h [] rfl
theorem txs_cons {f : FE} {fs : FEs} : ∀ σ H Q, TXs K mg E (fCons f fs) σ H Q → tCons (TX K mg E f) (TXs K mg E fs) σ H Q := by
  rintro σ H Q ⟨c, env, ρ, G, μ, hK, hm, re, eo, h⟩
  subst hK hm
  refine tx_use rfl rfl re eo h fun d v ρ1 G1 μ1 H1 p1 e1 r1 eo1 hv h1 => ?_
  refine txs_use rfl rfl r1 eo1 h1 fun ds vs ρ2 G2 μ2 H2 p2 e2 r2 eo2 hvs h2 => ?_
  exact Fin.ok r2 h2 (v :: vs) (.cons (hv.mono p2 e2) hvs)
/-! ### names, constants -/
def fVar (i : Nat) : FE := fun env μ => match env[i]? with
  | some (some d) => ok d μ
  | _ => none
def fC (d : D) : FE := fun _ μ => ok d μ
theorem tx_var (i : Nat) : ∀ σ H Q, TX K mg E (fVar i) σ H Q → tVar i σ H Q := by
  rintro σ H Q ⟨c, env, ρ, G, μ, hK, hm, re, eo, h⟩
  subst hK
  unfold fVar at h
  split at h
  · rename_i d e
    obtain ⟨v, q1, q2⟩ := eo.2 i d e
    exact ⟨v, q1, Fin.ok re h v q2⟩
  · exact fin_none h
def scv : D → Option V
  | .non => some .non
  | .bl b => some (.bl b)
  | .int i => some (.int i)
  | .str x => some (.str x)
  | _ => none
theorem sc_rep {d : D} {v : V} (h : scv d = some v) {K : PySem.W.Frag} {B : Hp} {ρ : List Addr} {G : Hp} : Rep K B ρ G d v := by
  cases d <;> cases h <;> rfl
theorem tx_c {d : D} {v : V} (h0 : scv d = some v) : ∀ σ H Q, TX K mg E (fC d) σ H Q → tC v σ H Q := by
  rintro σ H Q ⟨c, env, ρ, G, μ, hK, hm, re, eo, h⟩
  exact Fin.ok re h v (sc_rep h0)
/-! ### and, or, not; is None -/
def fAnd (fa fb : FE) : FE := fun env μ => rb (fa env μ) fun d μ1 => match d with
  | .bl true => fb env μ1
  | .bl false => ok (.bl false) μ1
  | _ => none
def fOr (fa fb : FE) : FE := fun env μ => rb (fa env μ) fun d μ1 => match d with
  | .bl false => fb env μ1
  | .bl true => ok (.bl true) μ1
  | _ => none
def dNot (d : D) (μ : Sto) : R D := match d with
  | .bl b => ok (.bl (!b)) μ
  | _ => none
def fNot (fa : FE) : FE := fun env μ => rb (fa env μ) dNot
theorem txb_tx {f : FE} : ∀ σ H (Q : Bool → Hp → Prop), TXb K mg E f σ H Q → TX K mg E f σ H fun x H' => ∃ k, x = .bl k ∧ Q k H' := by
  rintro σ H Q ⟨c, env, ρ, G, μ, hK, hm, re, eo, h⟩
  subst hK
  refine ⟨c, env, ρ, G, μ, rfl, hm, re, eo, h.imp fun d ρ' G' μ' H' _ _ _ q v hv => ?_⟩
  obtain ⟨b, rfl, q⟩ := q
  exact ⟨b, hv, q⟩
theorem txb_use' {α : Type} {c : Ct} {env : Env} {ρ : List Addr} {G H : Hp} {μ : Sto} {σ : L2.St} {fa : FE} {k : D → Sto → R α} {Q : α → List Addr → Hp → Sto → Hp → Prop} {T : Bool → Hp → Prop} (hK : c.K = K) (hm : c.mg = mg) (r : Rel c ρ G μ H) (e : EnvOk c ρ G env σ) (h : Fin c E ρ G (rb (fa env μ) k) Q)
    (hb : ∀ d μ, (∀ b, d ≠ .bl b) → k d μ = none)
    (step : ∀ b ρ1 G1 μ1 H1, ρ <+: ρ1 → Same G G1 → Rel c ρ1 G1 μ1 H1 → EnvOk c ρ1 G1 env σ → Fin c E ρ1 G1 (k (.bl b) μ1) Q → T b H1) : TXb K mg E fa σ H T :=
  ⟨c, env, ρ, G, μ, hK, hm, r, e, h.bind.imp fun d ρ1 G1 μ1 H1 p1 e1 r1 q => by
    by_cases hd : ∃ b, d = .bl b
    · obtain ⟨b, rfl⟩ := hd
      exact ⟨b, rfl, step b ρ1 G1 μ1 H1 p1 e1 r1 (e.up p1 e1) q⟩
    · rw [hb d μ1 fun b z => hd ⟨b, z⟩] at q
      exact q.elim⟩
theorem txb_and {fa fb : FE} : ∀ σ H Q, TXb K mg E (fAnd fa fb) σ H Q → tAnd (TXb K mg E fa) (TXb K mg E fb) σ H Q := by
  rintro σ H Q ⟨c, env, ρ, G, μ, hK, hm, re, eo, h⟩
  refine txb_use' hK hm re eo h (fun d μ hd => by cases d <;> first | rfl | exact absurd rfl (hd _)) fun b ρ1 G1 μ1 H1 p1 e1 r1 eo1 h1 => ?_
  cases b with
  | true => exact ⟨c, env, ρ1, G1, μ1, hK, hm, r1, eo1, h1⟩
  | false =>
    obtain ⟨b, e, q⟩ := Fin.ok r1 h1
    cases e
    exact q
theorem txb_or {fa fb : FE} : ∀ σ H Q, TXb K mg E (fOr fa fb) σ H Q → tOr (TXb K mg E fa) (TXb K mg E fb) σ H Q := by
  rintro σ H Q ⟨c, env, ρ, G, μ, hK, hm, re, eo, h⟩
  refine txb_use' hK hm re eo h (fun d μ hd => by cases d <;> first | rfl | exact absurd rfl (hd _)) fun b ρ1 G1 μ1 H1 p1 e1 r1 eo1 h1 => ?_
  cases b with
  | false => exact ⟨c, env, ρ1, G1, μ1, hK, hm, r1, eo1, h1⟩
  | true =>
    obtain ⟨b, e, q⟩ := Fin.ok r1 h1
    cases e
    exact q
theorem txb_not {fa : FE} : ∀ σ H Q, TXb K mg E (fNot fa) σ H Q → tNot (TXb K mg E fa) σ H Q := by
  rintro σ H Q ⟨c, env, ρ, G, μ, hK, hm, re, eo, h⟩
  refine txb_use' hK hm re eo h (fun d μ hd => by cases d <;> first | rfl | exact absurd rfl (hd _)) fun b ρ1 G1 μ1 H1 p1 e1 r1 eo1 h1 => ?_
  obtain ⟨b', e, q⟩ := Fin.ok r1 h1
  cases e
  exact q
theorem tx_boolV {d : D} {v : V} {P : Prop} {c : Ct} {ρ : List Addr} {G : Hp} (hv : Rep c.K c.B ρ G d v) (h : ∀ b, d = .bl b → v = .bl b → P) (h0 : (∀ b, d ≠ .bl b) → P) : P := by
  by_cases hd : ∃ b, d = .bl b
  · obtain ⟨b, rfl⟩ := hd
    exact h b rfl hv
  · exact h0 fun b z => hd ⟨b, z⟩
theorem tx_and {fa fb : FE} : ∀ σ H Q, TX K mg E (fAnd fa fb) σ H Q → tAndV (TX K mg E fa) (TX K mg E fb) σ H Q := by
  rintro σ H Q ⟨c, env, ρ, G, μ, hK, hm, re, eo, h⟩
  subst hK
  refine tx_use rfl hm re eo h fun d v ρ1 G1 μ1 H1 p1 e1 r1 eo1 hv h1 => ?_
  refine tx_boolV hv (fun b e e' => ?_) fun hd => by cases d <;> first | exact fin_none h1 | exact absurd rfl (hd _)
  subst e e'
  cases b with
  | true => exact ⟨true, rfl, ⟨c, env, ρ1, G1, μ1, rfl, hm, r1, eo1, h1⟩⟩
  | false => exact ⟨false, rfl, Fin.ok r1 h1 (.bl false) rfl⟩
theorem tx_or {fa fb : FE} : ∀ σ H Q, TX K mg E (fOr fa fb) σ H Q → tOrV (TX K mg E fa) (TX K mg E fb) σ H Q := by
  rintro σ H Q ⟨c, env, ρ, G, μ, hK, hm, re, eo, h⟩
  subst hK
  refine tx_use rfl hm re eo h fun d v ρ1 G1 μ1 H1 p1 e1 r1 eo1 hv h1 => ?_
  refine tx_boolV hv (fun b e e' => ?_) fun hd => by cases d <;> first | exact fin_none h1 | exact absurd rfl (hd _)
  subst e e'
  cases b with
  | false => exact ⟨false, rfl, ⟨c, env, ρ1, G1, μ1, rfl, hm, r1, eo1, h1⟩⟩
  | true => exact ⟨true, rfl, Fin.ok r1 h1 (.bl true) rfl⟩
theorem tx_not {fa : FE} : ∀ σ H Q, TX K mg E (fNot fa) σ H Q → tNotV (TX K mg E fa) σ H Q := by
  rintro σ H Q ⟨c, env, ρ, G, μ, hK, hm, re, eo, h⟩
  subst hK
  refine tx_use rfl hm re eo h fun d v ρ1 G1 μ1 H1 p1 e1 r1 eo1 hv h1 => ?_
  refine tx_boolV hv (fun b e e' => ?_) fun hd => by cases d <;> first | exact fin_none h1 | exact absurd rfl (hd _)
  subst e e'
  exact ⟨b, rfl, Fin.ok r1 h1 (.bl (!b)) rfl⟩
def isNon : D → Bool
  | .non => true
  | _ => false
def dIsN (d : D) (μ : Sto) : R D := ok (.bl (isNon d)) μ
def dNotN (d : D) (μ : Sto) : R D := ok (.bl (!isNon d)) μ
theorem isNon_rep {B : Hp} {ρ : List Addr} {G : Hp} {d : D} {v : V} (hv : Rep K B ρ G d v) : decide (v = .non) = isNon d := by
  cases d with
  | non => cases hv; rfl
  | bl _ => cases hv; rfl
  | int _ => cases hv; rfl
  | str _ => cases hv; rfl
  | scr _ => obtain ⟨a, rfl, _⟩ := hv; rfl
  | lst _ _ => obtain ⟨a, _, rfl, _⟩ := hv; rfl
  | tup _ => obtain ⟨a, _, rfl, _⟩ := hv; rfl
  | ref _ => obtain ⟨a, rfl, _⟩ := hv; rfl
  | dK _ _ => obtain ⟨a, _, rfl, _⟩ := hv; rfl
  | dT _ _ => obtain ⟨a, _, rfl, _⟩ := hv; rfl
theorem tx_isN {fa : FE} : ∀ σ H Q, TX K mg E (fun env μ => rb (fa env μ) dIsN) σ H Q → tIsN (TX K mg E fa) σ H Q := by
  rintro σ H Q ⟨c, env, ρ, G, μ, hK, hm, re, eo, h⟩
  subst hK
  refine tx_use rfl hm re eo h fun d v ρ1 G1 μ1 H1 p1 e1 r1 eo1 hv h1 => ?_
  rw [isNon_rep hv]
  exact Fin.ok r1 h1 _ rfl
theorem tx_notN {fa : FE} : ∀ σ H Q, TX K mg E (fun env μ => rb (fa env μ) dNotN) σ H Q → tNotN (TX K mg E fa) σ H Q := by
  rintro σ H Q ⟨c, env, ρ, G, μ, hK, hm, re, eo, h⟩
  subst hK
  refine tx_use rfl hm re eo h fun d v ρ1 G1 μ1 H1 p1 e1 r1 eo1 hv h1 => ?_
  rw [isNon_rep hv]
  exact Fin.ok r1 h1 _ rfl
/-- a op b op' c -/
def fChain (k k' : Cmp) (fa fb fc : FE) : FE := fun env μ => rb (fa env μ) fun d μ1 => rb (fb env μ1) fun e μ2 => rb (dCmp k d e μ2) fun t μ3 => match t with
  | .bl true => rb (fc env μ3) fun g μ4 => dCmp k' e g μ4
  | .bl false => ok (.bl false) μ3
  | _ => none
end
/-! ### isinstance -/
inductive Ty where
  | int | bool | list | tuple | str | dict
def Ty.nm : Ty → String
  | .int => "int" | .bool => "bool" | .list => "list" | .tuple => "tuple" | .str => "str" | .dict => "dict"
/-- the cell's kind -/
def tyC : Option Cell → Option (Option Ty)
  | some (.lst _ _) => some (some .list)
  | some (.dK _ _) => some (some .dict)
  | some (.dT _ _) => some (some .dict)
  | _ => none
def tyOf (μ : Sto) : D → Option (Option Ty)
  | .non => some none
  | .bl _ => some (some .bool)
  | .int _ => some (some .int)
  | .str _ => some (some .str)
  | .lst _ _ => some (some .list)
  | .tup _ => some (some .tuple)
  | .dK _ _ => some (some .dict)
  | .dT _ _ => some (some .dict)
  | .scr _ => none
  | .ref k => tyC μ[k]?
def isTy : Option Ty → Ty → Bool
  | some .int, .int => true
  | some .bool, .int => true
  | some .bool, .bool => true
  | some .list, .list => true
  | some .tuple, .tuple => true
  | some .str, .str => true
  | some .dict, .dict => true
  | _, _ => false
def dIsi (T : Ty) (d : D) (μ : Sto) : R D := match tyOf μ d with
  | some t => ok (.bl (isTy t T)) μ
  | none => none
def tyNm : Option Ty → String
  | none => "NoneType"
  | some T => T.nm
theorem kit_ty (K : PySem.W.Frag) (t : Option Ty) (T : Ty) : PySem.W.kitOne K (.type (tyNm t)) (.type T.nm) = some (isTy t T) := by
  cases t with
  | none => cases T <;> rfl
  | some t => cases t <;> cases T <;> rfl
theorem tyOf_ok {c : Ct} {ρ : List Addr} {G H : Hp} {μ : Sto} {d : D} {v : V} {t : Option Ty} (r : Rel c ρ G μ H) (h : tyOf μ d = some t) (hv : Rep c.K c.B ρ G d v) : TyX c.K H v (.type (tyNm t)) := by
  cases d with
  | non => cases h; cases hv; exact .base .non
  | bl _ => cases h; cases hv; exact .base (.bl _)
  | int _ => cases h; cases hv; exact .base (.int _)
  | str _ => cases h; cases hv; exact .base (.str _)
  | scr _ => cases h
  | lst b xs =>
    cases h
    obtain ⟨a, vs, rfl, q1, _⟩ := hv
    exact .base (.lst (pick_h r q1))
  | tup xs =>
    cases h
    obtain ⟨a, vs, rfl, q1, _⟩ := hv
    exact .base (.tup (r.gh _ _ q1))
  | dK b xs =>
    cases h
    obtain ⟨a, vs, rfl, q1, _⟩ := hv
    exact .base (.dK (pick_h r q1))
  | dT b xs =>
    cases h
    obtain ⟨a, vs, rfl, q1, _⟩ := hv
    exact .base (.dT (pick_h r q1))
  | ref k =>
    have h' : tyC μ[k]? = some t := h
    cases e0 : μ[k]? with
    | none =>
      rw [e0] at h'
      cases h'
    | some x =>
      rw [e0] at h'
      cases x with
      | lst m xs =>
        cases h'
        obtain ⟨a, vs, rfl, q1, q2⟩ := see_ok r (see_ref e0) hv
        exact .base (.lst q1)
      | dK m xs =>
        cases h'
        obtain ⟨a, vs, rfl, q1, q2⟩ := seeK_ok r e0 hv
        exact .base (.dK q1)
      | dT m xs =>
        cases h'
        obtain ⟨a, vs, rfl, q1, q2⟩ := seeT_ok r e0 hv
        exact .base (.dT q1)
      | lkT _ => cases h'
      | lkK _ => cases h'
      | exn _ _ => cases h'
      | ins _ _ => cases h'
theorem tx_isi {K : PySem.W.Frag} {mg : Str → Option Value} {E : XK} {fa : FE} (T : Ty) : ∀ σ H Q, TX K mg E (fun env μ => rb (fa env μ) (dIsi T)) σ H Q → tCB (rIsi K) (tCons (TX K mg E fa) (tCons (tC (.ty T.nm)) tNil)) σ H Q := by
  rintro σ H Q ⟨c, env, ρ, G, μ, hK, hm, re, eo, h⟩
  subst hK
  refine tx_use rfl hm re eo h fun d v ρ1 G1 μ1 H1 p1 e1 r1 eo1 hv h1 => ?_
  unfold dIsi at h1
  split at h1
  · rename_i t e2
    exact ⟨v, .ty T.nm, _, _, _, rfl, .ty _, tyOf_ok r1 e2 hv, kit_ty c.K t T, Fin.ok r1 h1 _ rfl⟩
  · exact fin_none h1
end Lv
set_option Elab.async false
set_option linter.all false
set_option maxRecDepth 100000
set_option autoImplicit false
/-! pins, writes; targets; what is walked; comprehensions -/
namespace Lv
open PySem PySem.Spec PyProof.Rows L2
/-! ### the heap changes -/
def Ct.pin (c : Ct) (p : Addr) (o : HO) : Ct := { c with P := upd c.P p o }
section
variable {c : Ct} {ρ ρ' : List Addr} {G G' H H' : Hp} {μ : Sto} {p : Addr} {o : HO}
theorem CellOk.pin {x : Cell} {a : Addr} (h : CellOk c ρ G H x a) : CellOk (c.pin p o) ρ G H x a := h
/-- a new object, pinned -/
theorem Rel.pinned (r : Rel c ρ G μ H) (h : H p = none) (ht : ∀ vs, o ≠ .tup vs) : Rel (c.pin p o) ρ G μ (upd H p o) := by
  refine ⟨r.gh.trans (same_upd h), r.bh.trans (same_upd h), fun a x e => ?_, fun a vs e => ?_, r.g0, r.nw, fun a x e => ?_, r.ln, r.nd, fun n a x e1 e2 => ?_⟩
  · by_cases q : a = p
    · subst q
      have e' : upd c.P a o a = some x := e
      rw [upd_same] at e' ⊢
      exact e'
    · have e' : upd c.P p o a = some x := e
      rw [upd_ne q] at e' ⊢
      exact r.ph _ _ e'
  · by_cases q : a = p
    · subst q
      rw [upd_same] at e
      exact absurd (Option.some.inj e) (ht vs)
    · rw [upd_ne q] at e
      exact r.tp _ _ e
  · by_cases q : a = p
    · subst q
      exact ⟨r.none_g h, r.none_r h, r.none_b h⟩
    · have e' : upd c.P p o a = some x := e
      rw [upd_ne q] at e'
      exact r.gp a x e'
  · exact (r.cl n a x e1 e2).mono (List.prefix_refl _) (Same.refl _) fun g0 b0 o' q => ⟨g0, by rw [upd_ne (ne_of_none q h)]; exact q⟩
theorem Rel.pin_at (r : Rel (c.pin p o) ρ G μ H) : H p = some o := r.ph p o upd_same
/-- the pinned object changes -/
theorem Rel.repin {o' : HO} (r : Rel (c.pin p o) ρ G μ H) (ht : ∀ vs, o' ≠ .tup vs) : Rel (c.pin p o') ρ G μ (upd H p o') := by
  obtain ⟨q1, q2, q3⟩ := r.gp p o upd_same
  have ng : ∀ {a : Addr} {x : HO}, G a = some x → a ≠ p := fun {a x} e z => by
    subst z
    rw [q1] at e
    cases e
  have nb : ∀ {a : Addr} {x : HO}, c.B a = some x → a ≠ p := fun {a x} e z => by
    subst z
    have q3' : c.B a = none := q3
    rw [q3'] at e
    cases e
  refine ⟨fun a x e => by rw [upd_ne (ng e)]; exact r.gh _ _ e, fun a x e => by rw [upd_ne (nb e)]; exact r.bh _ _ e, fun a x e => ?_, fun a vs e => ?_, r.g0, r.nw, fun a x e => ?_, r.ln, r.nd, fun n a x e1 e2 => ?_⟩
  · have e' : upd c.P p o' a = some x := e
    by_cases q : a = p
    · subst q
      rw [upd_same] at e' ⊢
      exact e'
    · rw [upd_ne q] at e' ⊢
      exact r.ph a x (show upd c.P p o a = some x by rw [upd_ne q]; exact e')
  · by_cases q : a = p
    · subst q
      rw [upd_same] at e
      exact absurd (Option.some.inj e) (ht vs)
    · rw [upd_ne q] at e
      exact r.tp _ _ e
  · by_cases q : a = p
    · subst q
      exact ⟨q1, q2, q3⟩
    · have e' : upd c.P p o' a = some x := e
      rw [upd_ne q] at e'
      exact r.gp a x (show upd c.P p o a = some x by rw [upd_ne q]; exact e')
  · have na : a ≠ p := fun z => q2 (by rw [← z]; exact List.mem_of_getElem? e1)
    exact (r.cl n a x e1 e2).mono (List.prefix_refl _) (Same.refl _) fun g0 _ u q => ⟨g0, by rw [upd_ne na]; exact q⟩
/-- no more pinned: nobody changes it -/
theorem Rel.unpin_fz (r : Rel (c.pin p o) ρ G μ H) (hP : c.P p = none) (ht : ∀ vs, o ≠ .tup vs) : Rel c ρ (upd G p o) μ H := by
  obtain ⟨q1, q2, q3⟩ := r.gp p o upd_same
  refine ⟨fun a x e => ?_, r.bh, fun a x e => ?_, fun a vs e => ?_, r.g0.trans (same_upd q1), fun a x e => ?_, fun a x e => ?_, r.ln, r.nd, fun n a x e1 e2 => ?_⟩
  · by_cases q : a = p
    · subst q
      rw [upd_same] at e
      cases e
      exact r.pin_at
    · rw [upd_ne q] at e
      exact r.gh _ _ e
  · have na : a ≠ p := fun z => by
      rw [z, hP] at e
      cases e
    exact r.ph a x (show upd c.P p o a = some x by rw [upd_ne na]; exact e)
  · have na : a ≠ p := fun z => by
      rw [z, r.pin_at] at e
      exact absurd (Option.some.inj e) (ht vs)
    rw [upd_ne na]
    exact r.tp _ _ e
  · by_cases q : a = p
    · subst q
      exact .inr q3
    · rw [upd_ne q] at e
      exact r.nw a x e
  · have na : a ≠ p := fun z => by
      rw [z, hP] at e
      cases e
    obtain ⟨w1, w2, w3⟩ := r.gp a x (show upd c.P p o a = some x by rw [upd_ne na]; exact e)
    exact ⟨by rw [upd_ne na]; exact w1, w2, w3⟩
  · have na : a ≠ p := fun z => q2 (by rw [← z]; exact List.mem_of_getElem? e1)
    exact (r.cl n a x e1 e2).mono (c := c) (List.prefix_refl _) (same_upd q1) fun g0 _ u q => ⟨by rw [upd_ne na]; exact g0, q⟩
/-- no more pinned: a cell -/
theorem Rel.unpin_cell (r : Rel (c.pin p o) ρ G μ H) (hP : c.P p = none) {x : Cell} (hx : CellOk c (ρ ++ [p]) G H x p) : Rel c (ρ ++ [p]) G (μ ++ [x]) H := by
  obtain ⟨q1, q2, q3⟩ := r.gp p o upd_same
  refine ⟨r.gh, r.bh, fun a x e => ?_, r.tp, r.g0, r.nw, fun a x e => ?_, by rw [List.length_append, List.length_append, r.ln]; rfl, ?_, fun n a y e1 e2 => ?_⟩
  · have na : a ≠ p := fun z => by
      rw [z, hP] at e
      cases e
    exact r.ph a x (show upd c.P p o a = some x by rw [upd_ne na]; exact e)
  · have na : a ≠ p := fun z => by
      rw [z, hP] at e
      cases e
    obtain ⟨w1, w2, w3⟩ := r.gp a x (show upd c.P p o a = some x by rw [upd_ne na]; exact e)
    refine ⟨w1, fun hm => ?_, w3⟩
    rcases List.mem_append.mp hm with z | z
    · exact w2 z
    · exact na (by simpa using z)
  · refine List.nodup_append.mpr ⟨r.nd, by simp, fun a ha b hb z => ?_⟩
    have z' : b = p := by simpa using hb
    subst z' z
    exact q2 ha
  · by_cases hn : n < ρ.length
    · rw [List.getElem?_append_left hn] at e1
      rw [List.getElem?_append_left (by rw [← r.ln]; exact hn)] at e2
      exact (r.cl n a y e1 e2).mono (c := c) (List.prefix_append _ _) (Same.refl _) fun g0 _ u q => ⟨g0, q⟩
    · have hn' : n = ρ.length := by
        have := (List.getElem?_eq_some_iff.mp e1).1
        rw [List.length_append, List.length_singleton] at this
        omega
      subst hn'
      rw [List.getElem?_append_right (Nat.le_refl _), Nat.sub_self] at e1
      rw [List.getElem?_append_right (by rw [r.ln]; exact Nat.le_refl _), r.ln, Nat.sub_self] at e2
      cases e1
      cases e2
      exact hx
/-- a cell is written (H2: the heap behind it) -/
theorem Rel.write {n : Nat} {a : Addr} {x : Cell} {o : HO} (r : Rel c ρ G μ H) (ha : ρ[n]? = some a) (hg : G a = none) (hb : c.B a = none) (ht : ∀ vs, o ≠ .tup vs) (hx : CellOk c ρ G (upd H a o) x a) : Rel c ρ G (μ.set n x) (upd H a o) := by
  have hr : a ∈ ρ := List.mem_of_getElem? ha
  refine ⟨fun b y e => ?_, fun b y e => ?_, fun b y e => ?_, fun b vs e => ?_, r.g0, r.nw, r.gp, by rw [List.length_set]; exact r.ln, r.nd, fun m b y e1 e2 => ?_⟩
  · have : b ≠ a := fun z => by
      rw [z, hg] at e
      cases e
    rw [upd_ne this]
    exact r.gh _ _ e
  · have : b ≠ a := fun z => by
      rw [z, hb] at e
      cases e
    rw [upd_ne this]
    exact r.bh _ _ e
  · have : b ≠ a := fun z => (r.gp b y e).2.1 (by rw [z]; exact hr)
    rw [upd_ne this]
    exact r.ph _ _ e
  · by_cases q : b = a
    · subst q
      rw [upd_same] at e
      exact absurd (Option.some.inj e) (ht vs)
    · rw [upd_ne q] at e
      exact r.tp _ _ e
  · by_cases hm : n = m
    · subst hm
      rw [ha] at e1
      cases e1
      have hn : n < μ.length := by
        rw [← r.ln]
        exact (List.getElem?_eq_some_iff.mp ha).1
      rw [List.getElem?_set_self hn] at e2
      cases e2
      exact hx
    · rw [List.getElem?_set_ne hm] at e2
      have na : b ≠ a := fun z => by
        subst z
        obtain ⟨l1, k1⟩ := List.getElem?_eq_some_iff.mp ha
        obtain ⟨l2, k2⟩ := List.getElem?_eq_some_iff.mp e1
        exact hm ((List.getElem_inj r.nd).mp (k1.trans k2.symm))
      exact (r.cl m b y e1 e2).mono (List.prefix_refl _) (Same.refl _) fun g0 _ u q => ⟨g0, by rw [upd_ne na]; exact q⟩
/-- a cell's mode, locked or not -/
theorem Rel.mode {n : Nat} {x y : Cell} (r : Rel c ρ G μ H) (hx : μ[n]? = some x) (hc : ∀ a, CellOk c ρ G H x a → CellOk c ρ G H y a) : Rel c ρ G (μ.set n y) H := by
  refine ⟨r.gh, r.bh, r.ph, r.tp, r.g0, r.nw, r.gp, by rw [List.length_set]; exact r.ln, r.nd, fun m b z e1 e2 => ?_⟩
  by_cases hm : n = m
  · subst hm
    have hn := (List.getElem?_eq_some_iff.mp hx).1
    rw [List.getElem?_set_self hn] at e2
    cases e2
    exact hc b (r.cl n b x e1 hx)
  · rw [List.getElem?_set_ne hm] at e2
    exact r.cl m b z e1 e2
end
/-! ### targets -/
inductive Tg where
  | nm (i : Nat) | tup (is : List Nat)
def sets : List Nat → List D → Env → Env
  | i :: is, d :: ds, env => sets is ds (env.set i (some d))
  | _, _, env => env
def Tg.bind : Tg → D → Env → Option Env
  | .nm i, d, env => some (env.set i (some d))
  | .tup is, .tup xs, env => if xs.length = is.length then some (sets is xs env) else none
  | _, _, _ => none
def Tg.slots : Tg → List Nat
  | .nm i => [i]
  | .tup is => is
def gs : List Nat → TGs
  | [] => gNil
  | i :: is => gCons (gName i) (gs is)
def Tg.g (K : PySem.W.Frag) : Tg → TG
  | .nm i => gName i
  | .tup is => gTup K is.length (gs is)
def Touch (is : List Nat) (σ σ' : L2.St) : Prop := σ'.length = σ.length ∧ ∀ j, j ∉ is → σ'[j]? = σ[j]?
section
variable {c : Ct} {ρ : List Addr} {G H : Hp} {μ : Sto}
theorem gs_ok : ∀ (is : List Nat) (ds : List D) (vs : List V) (env : Env) (σ : L2.St) (Q : L2.St → Hp → Prop), EnvOk c ρ G env σ → Reps c.K c.B ρ G ds vs → ds.length = is.length → (∀ σ', EnvOk c ρ G (sets is ds env) σ' → Touch is σ σ' → Q σ' H) → gs is vs σ H Q
  | [], [], _, env, σ, Q, e, h, _, q => by
    cases h
    exact ⟨rfl, q σ e ⟨rfl, fun _ _ => rfl⟩⟩
  | i :: is, d :: ds, _, env, σ, Q, e, ⟨v, r, e1, h1, h2⟩, hl, q => by
    subst e1
    refine ⟨v, r, rfl, gs_ok is ds r (env.set i (some d)) (σ.set i (some v)) Q (e.set h1) h2 (by simpa using hl) fun σ' e' t => q σ' e' ⟨?_, fun j hj => ?_⟩⟩
    · rw [t.1, List.length_set]
    · rw [t.2 j fun z => hj (List.mem_cons_of_mem _ z), List.getElem?_set_ne fun z => hj (by rw [z]; exact List.mem_cons_self)]
  | [], _ :: _, _, _, _, _, _, _, hl, _ => by cases hl
  | _ :: _, [], _, _, _, _, _, _, hl, _ => by cases hl
theorem tg_ok (r : Rel c ρ G μ H) {tg : Tg} {d : D} {v : V} {env env' : Env} {σ : L2.St} {Q : L2.St → Hp → Prop} (e : EnvOk c ρ G env σ) (hv : Rep c.K c.B ρ G d v) (hb : tg.bind d env = some env')
    (q : ∀ σ', EnvOk c ρ G env' σ' → Touch tg.slots σ σ' → Q σ' H) : tg.g c.K v σ H Q := by
  cases tg with
  | nm i =>
    cases hb
    refine q _ (e.set hv) ⟨List.length_set, fun j hj => ?_⟩
    rw [List.getElem?_set_ne fun z => hj (by rw [z]; exact List.mem_cons_self)]
  | tup is =>
    cases d with
    | tup xs =>
      have hb' : (if xs.length = is.length then some (sets is xs env) else none) = some env' := hb
      split at hb'
      · rename_i hl
        cases hb'
        obtain ⟨a, vs, rfl, h1, h2⟩ := tup_ok r hv
        exact ⟨a, vs, rfl, h1, by rw [← h2.length, hl], gs_ok is xs vs env σ Q e h2 hl q⟩
      · cases hb'
    | _ => cases hb
end
theorem wipe_in {σ : L2.St} : ∀ {vs : List Nat} {i : Nat}, i ∈ vs → i < σ.length → (wipe σ vs)[i]? = some none
  | v :: vs, i, h, hl => by
    unfold wipe
    by_cases e : v = i
    · subst e
      rw [List.getElem?_set_self (by rw [wipe_length]; exact hl)]
    · rw [List.getElem?_set_ne e]
      rcases List.mem_cons.mp h with z | z
      · exact absurd z.symm e
      · exact wipe_in z hl
theorem wipe_touch {is vs : List Nat} {σ σ' : L2.St} (t : Touch is σ σ') (h : ∀ i ∈ is, i ∈ vs) : wipe σ' vs = wipe σ vs := by
  refine List.ext_getElem? fun i => ?_
  by_cases hi : i ∈ vs
  · by_cases hl : i < σ.length
    · rw [wipe_in hi hl, wipe_in hi (by rw [t.1]; exact hl)]
    · have hl' := t.1
      rw [List.getElem?_eq_none (l := wipe σ' vs) (by rw [wipe_length]; omega), List.getElem?_eq_none (l := wipe σ vs) (by rw [wipe_length]; omega)]
  · rw [wipe_out hi, wipe_out hi]
    exact t.2 i fun z => hi (h i z)
theorem wipe_wipe {σ : L2.St} {vs : List Nat} : wipe (wipe σ vs) vs = wipe σ vs := by
  refine List.ext_getElem? fun i => ?_
  by_cases hi : i ∈ vs
  · by_cases hl : i < σ.length
    · rw [wipe_in hi hl, wipe_in hi (by rw [wipe_length]; exact hl)]
    · rw [List.getElem?_eq_none (l := wipe (wipe σ vs) vs) (by rw [wipe_length, wipe_length]; omega), List.getElem?_eq_none (l := wipe σ vs) (by rw [wipe_length]; omega)]
  · rw [wipe_out hi]
def wipeE (env : Env) : List Nat → Env
  | [] => env
  | v :: vs => (wipeE env vs).set v none
theorem wipeE_length (env : Env) : ∀ vs : List Nat, (wipeE env vs).length = env.length
  | [] => rfl
  | v :: vs => by
    unfold wipeE
    rw [List.length_set, wipeE_length env vs]
theorem wipeE_some {env : Env} {i : Nat} {x : D} : ∀ {vs : List Nat}, (wipeE env vs)[i]? = some (some x) → env[i]? = some (some x) ∧ i ∉ vs
  | [], h => ⟨h, by simp⟩
  | v :: vs, h => by
    unfold wipeE at h
    by_cases hi : v = i
    · subst hi
      by_cases hv : v < (wipeE env vs).length
      · rw [List.getElem?_set_self hv] at h
        cases h
      · rw [List.getElem?_eq_none (by rw [List.length_set]; omega)] at h
        cases h
    · rw [List.getElem?_set_ne hi] at h
      obtain ⟨h1, h2⟩ := wipeE_some h
      exact ⟨h1, by simp only [List.mem_cons, not_or]; exact ⟨fun e => hi e.symm, h2⟩⟩
theorem EnvOk.wipe {c : Ct} {ρ : List Addr} {G : Hp} {env : Env} {σ : L2.St} (e : EnvOk c ρ G env σ) (vs : List Nat) : EnvOk c ρ G (wipeE env vs) (wipe σ vs) := by
  refine ⟨by rw [wipeE_length, wipe_length]; exact e.1, fun i d h => ?_⟩
  obtain ⟨h1, h2⟩ := wipeE_some h
  obtain ⟨v, q1, q2⟩ := e.2 i d h1
  exact ⟨v, by rw [wipe_out h2]; exact q1, q2⟩
/-! ### what is walked -/
inductive Sr where
  | fix (ds : List D) | cell (n : Nat) (rs : Bool) | zip (a b : Sr) | itm (n : Nat) | kys (n : Nat)
abbrev FSrc := Env → Sto → R Sr
def keyR : Key → D
  | .inl i => .int i
  | .inr x => .str x
def itmD (kv : List Key × D) : D := .tup [.tup (kv.1.map keyR), kv.2]
def Sr.at (μ : Sto) (i : Nat) : Sr → Option (Option D)
  | .fix ds => some ds[i]?
  | .cell n _ => match μ[n]? with
    | some (.lst .lock xs) => some xs[i]?
    | _ => none
  | .itm n => match μ[n]? with
    | some (.lkT kvs) => some (kvs[i]?.map itmD)
    | _ => none
  | .kys n => match μ[n]? with
    | some (.lkK kvs) => some (kvs[i]?.map fun kv => keyR kv.1)
    | some (.lkT kvs) => some (kvs[i]?.map fun kv => .tup (kv.1.map keyR))
    | _ => none
  | .zip a b => match Sr.at μ i a, Sr.at μ i b with
    | some (some d), some (some e) => some (some (.tup [d, e]))
    | some none, some _ => some none
    | some (some _), some none => some none
    | _, _ => none
def Sr.fuel (μ : Sto) : Sr → Nat
  | .zip a _ => Sr.fuel μ a
  | .fix ds => ds.length + 1
  | .cell n _ => match μ[n]? with
    | some (.lst _ xs) => xs.length + 1
    | _ => 0
  | .itm n => match μ[n]? with
    | some (.lkT kvs) => kvs.length + 1
    | _ => 0
  | .kys n => match μ[n]? with
    | some (.lkK kvs) => kvs.length + 1
    | some (.lkT kvs) => kvs.length + 1
    | _ => 0
def Sr.free (μ : Sto) : Sr → Sto
  | .zip a b => Sr.free (Sr.free μ a) b
  | .cell n true => match μ[n]? with
    | some (.lst .lock xs) => μ.set n (.lst .live xs)
    | _ => μ
  | _ => μ
/-- J goes over it, from (ρ, G) on -/
def SrOk (c : Ct) (s : Sr) (J : It) (ρ0 : List Addr) (G0 : Hp) : Prop := ∀ (c' : Ct) (ρ : List Addr) (G : Hp) (μ : Sto) (H : Hp), c'.K = c.K → c'.B = c.B → c'.L = c.L → ρ0 <+: ρ → Same G0 G → Rel c' ρ G μ H → ∀ (i : Nat) (o : Option D), s.at μ i = some o → match o with
  | none => J.stop i H
  | some d => J.go i H ∧ ∀ x H', J.yld i H x H' → ∃ G', Same G G' ∧ Rel c' ρ G' μ H' ∧ Rep c.K c.B ρ G' d x
def TXi (K : PySem.W.Frag) (mg : Str → Option Value) (E : XK) (f : FSrc) : TI := fun σ H R => ∃ c env ρ G μ, c.K = K ∧ c.mg = mg ∧ Rel c ρ G μ H ∧ EnvOk c ρ G env σ ∧ Fin c E ρ G (f env μ) fun s ρ' G' _ H' => ∀ J, SrOk c s J ρ' G' → R J H'
theorem Rel.free {c : Ct} {ρ : List Addr} {G H : Hp} {μ : Sto} (r : Rel c ρ G μ H) (s : Sr) : Rel c ρ G (s.free μ) H := by
  induction s generalizing μ with
  | zip a b ia ib => exact ib (ia r)
  | fix ds => exact r
  | itm n => exact r
  | kys n => exact r
  | cell n rs =>
    cases rs with
    | false => exact r
    | true =>
      show Rel c ρ G (match μ[n]? with
        | some (.lst .lock xs) => μ.set n (.lst .live xs)
        | _ => μ) H
      split
      · rename_i xs e
        exact r.mode e fun a q => q
      · exact r
theorem PI.imp {X : Cx} {tg it : Expr} {w w' : TI} (h : PI X tg it w) (q : ∀ σ H R, w' σ H R → w σ H R) : PI X tg it w' := ⟨fun pins s σ H R I hw => h.run pins s σ H R I (q σ H R hw)⟩
section
variable {K : PySem.W.Frag} {mg : Str → Option Value} {E : XK}
def dSrc (d : D) (μ : Sto) : R Sr := match d with
  | .lst _ xs => ok (.fix xs) μ
  | .scr xs => ok (.fix (xs.map .int)) μ
  | .ref n => match μ[n]? with
    | some (.lst .live xs) => ok (.cell n true) (μ.set n (.lst .lock xs))
    | some (.lst .lock _) => ok (.cell n false) μ
    | some (.lst .fz xs) => ok (.fix xs) μ
    | _ => none
  | _ => none
/-- the list at a holds ds from now on -/
theorem sr_fix {c : Ct} {ρ0 : List Addr} {G0 : Hp} {ds : List D} {vs : List V} {a : Addr} (hs : Reps c.K c.B ρ0 G0 ds vs) (ha : ∀ (c' : Ct) (ρ : List Addr) (G : Hp) (μ : Sto) (H : Hp), c'.B = c.B → Same G0 G → Rel c' ρ G μ H → SqL c.K H a vs) : SrOk c (.fix ds) (Itl c.K a) ρ0 G0 := by
  intro c' ρ G μ H hK hB hL p e r i o ho
  have q := ha c' ρ G μ H hB e r
  cases ho
  have hs' := hs.mono p e
  cases ei : ds[i]? with
  | none =>
    refine ⟨vs, q, ?_⟩
    have := List.getElem?_eq_none_iff.mp ei
    rw [hs.length] at this
    exact this
  | some d =>
    obtain ⟨v, h1, h2⟩ := hs'.get ei
    refine ⟨⟨vs, v, q, h1⟩, fun x H' y => ?_⟩
    obtain ⟨rfl, y⟩ := y
    have := y vs q
    rw [h1] at this
    cases this
    exact ⟨G, Same.refl _, r, h2⟩
theorem sr_cell {c : Ct} {ρ0 : List Addr} {G0 : Hp} {n : Nat} {rs : Bool} {a : Addr} (ha : ρ0[n]? = some a) : SrOk c (.cell n rs) (Itl c.K a) ρ0 G0 := by
  intro c' ρ G μ H hK hB hL p e r i o ho
  have ho' : (match μ[n]? with
    | some (.lst .lock xs) => some xs[i]?
    | _ => none) = some o := ho
  split at ho'
  · rename_i xs e0
    cases ho'
    obtain ⟨_, _, vs, q1, q2⟩ := r.cl n a _ (pre_get p ha) e0
    have q : SqL c.K H a vs := .inl (.inl q1)
    rw [hK, hB] at q2
    cases ei : xs[i]? with
    | none =>
      refine ⟨vs, q, ?_⟩
      have := List.getElem?_eq_none_iff.mp ei
      rw [q2.length] at this
      exact this
    | some d =>
      obtain ⟨v, h1, h2⟩ := q2.get ei
      refine ⟨⟨vs, v, q, h1⟩, fun x H' y => ?_⟩
      obtain ⟨rfl, y⟩ := y
      have := y vs q
      rw [h1] at this
      cases this
      exact ⟨G, Same.refl _, r, h2⟩
  · cases ho'
theorem pick_same {b : Bool} {c c' : Ct} {ρ : List Addr} {G0 G H : Hp} {μ : Sto} {a : Addr} {o : HO} (hB : c'.B = c.B) (e : Same G0 G) (r : Rel c' ρ G μ H) (h : pick b c.B G0 a = some o) : H a = some o := by
  cases b with
  | true => exact r.bh _ _ (by rw [hB]; exact h)
  | false => exact r.gh _ _ (e _ _ h)
theorem txi_list {f : FE} : ∀ σ H R, TXi K mg E (fun env μ => rb (f env μ) dSrc) σ H R → iList K (TX K mg E f) σ H R := by
  rintro σ H R ⟨c, env, ρ, G, μ, hK, hm, re, eo, h⟩
  subst hK
  refine tx_use rfl hm re eo h fun d v ρ1 G1 μ1 H1 p1 e1 r1 eo1 hv h1 => ?_
  unfold dSrc at h1
  split at h1
  · obtain ⟨a, vs, rfl, q1, q2⟩ := hv
    exact ⟨a, rfl, ⟨vs, .inl (.inl (pick_h r1 q1))⟩, Fin.ok r1 h1 _ (sr_fix q2 fun c' ρ G μ H hB e r => .inl (.inl (pick_same hB e r q1)))⟩
  · obtain ⟨a, rfl, q1⟩ := hv
    exact ⟨a, rfl, ⟨_, sql_up r1.bh q1⟩, Fin.ok r1 h1 _ (sr_fix Reps.ints fun c' ρ G μ H hB e r => sql_up (by rw [← hB]; exact r.bh) q1)⟩
  · rename_i n
    obtain ⟨a, rfl, ha⟩ := hv
    split at h1
    · rename_i xs e0
      obtain ⟨_, _, vs, q1, q2⟩ := r1.cl n a _ ha e0
      exact ⟨a, rfl, ⟨vs, .inl (.inl q1)⟩, Fin.ok (r1.mode e0 (y := .lst .lock xs) fun _ q => q) h1 _ (sr_cell ha)⟩
    · rename_i xs e0
      obtain ⟨_, _, vs, q1, q2⟩ := r1.cl n a _ ha e0
      exact ⟨a, rfl, ⟨vs, .inl (.inl q1)⟩, Fin.ok r1 h1 _ (sr_cell ha)⟩
    · rename_i xs e0
      obtain ⟨vs, q1, q2⟩ := r1.cl n a _ ha e0
      exact ⟨a, rfl, ⟨vs, .inl (.inl (r1.gh _ _ q1))⟩, Fin.ok r1 h1 _ (sr_fix q2 fun c' ρ G μ H hB e r => .inl (.inl (r.gh _ _ (e _ _ q1))))⟩
    · exact fin_none h1
  · exact fin_none h1
def dSrcT (d : D) (μ : Sto) : R Sr := match d with
  | .tup xs => ok (.fix xs) μ
  | _ => none
theorem txi_tup {f : FE} : ∀ σ H R, TXi K mg E (fun env μ => rb (f env μ) dSrcT) σ H R → iTup K (TX K mg E f) σ H R := by
  rintro σ H R ⟨c, env, ρ, G, μ, hK, hm, re, eo, h⟩
  subst hK
  refine tx_use rfl hm re eo h fun d v ρ1 G1 μ1 H1 p1 e1 r1 eo1 hv h1 => ?_
  unfold dSrcT at h1
  split at h1
  · rename_i xs
    obtain ⟨a, vs, rfl, q1, q2⟩ := hv
    refine ⟨a, rfl, ⟨vs, .inl (.inl (r1.gh _ _ q1))⟩, Fin.ok r1 h1 _ ?_⟩
    intro c' ρ G μ H hK hB hL p e r i o ho
    have q : SqT c.K H a vs := .inl (.inl (r.gh _ _ (e _ _ q1)))
    cases ho
    have hs' := q2.mono p e
    cases ei : xs[i]? with
    | none =>
      refine ⟨vs, q, ?_⟩
      have := List.getElem?_eq_none_iff.mp ei
      rw [q2.length] at this
      exact this
    | some d =>
      obtain ⟨v, h1, h2⟩ := hs'.get ei
      refine ⟨⟨vs, v, q, h1⟩, fun x H' y => ?_⟩
      obtain ⟨rfl, y⟩ := y
      have := y vs q
      rw [h1] at this
      cases this
      exact ⟨G, Same.refl _, r, h2⟩
  · exact fin_none h1
/-- lo, lo + 1, .. -/
def rangeD (lo : Int) (n : Nat) : List D := (List.range n).map fun i => .int (lo + (i : Nat))
def dRng (ds : List D) (μ : Sto) : R Sr := match ds with
  | [.int j] => if j.toNat ≤ LIM ∧ -(2 ^ 62) ≤ j then ok (.fix (rangeD 0 j.toNat)) μ else none
  | [.int i, .int j] => if (-(2 ^ 61) ≤ i ∧ i ≤ 2 ^ 61) ∧ (-(2 ^ 61) ≤ j ∧ j ≤ 2 ^ 61) ∧ (j - i).toNat ≤ LIM then ok (.fix (rangeD i (j - i).toNat)) μ else none
  | _ => none
theorem sr_range {c : Ct} {ρ0 : List Addr} {G0 : Hp} {lo : Int} {n : Nat} : SrOk c (.fix (rangeD lo n)) (Itr lo n) ρ0 G0 := by
  intro c' ρ G μ H hK hB hL p e r i o ho
  cases ho
  by_cases hi : i < n
  · have e1 : (rangeD lo n)[i]? = some (.int (lo + (i : Nat))) := by
      unfold rangeD
      rw [List.getElem?_map, List.getElem?_range hi]
      rfl
    rw [e1]
    refine ⟨hi, fun x H' y => ?_⟩
    obtain ⟨rfl, rfl⟩ := y
    exact ⟨G, Same.refl _, r, rfl⟩
  · have e1 : (rangeD lo n)[i]? = none := by
      refine List.getElem?_eq_none_iff.mpr ?_
      unfold rangeD
      rw [List.length_map, List.length_range]
      omega
    rw [e1]
    show n ≤ i
    omega
theorem txi_rng1 {f : FEs} : ∀ σ H R, TXi K mg E (fun env μ => rb (f env μ) fun ds μ1 => match ds with
  | [d] => dRng [d] μ1
  | _ => none) σ H R → iRng1 (TXs K mg E f) σ H R := by
  rintro σ H R ⟨c, env, ρ, G, μ, hK, hm, re, eo, h⟩
  refine txs_use hK hm re eo h fun ds vs ρ1 G1 μ1 H1 p1 e1 r1 eo1 hv h1 => ?_
  split at h1
  · obtain ⟨v, rfl, hv1⟩ := reps1 hv
    unfold dRng at h1
    split at h1
    · rename_i j e2
      cases e2
      split at h1
      · rename_i hl
        cases hv1
        have : LIM < 2 ^ 62 := by decide
        refine ⟨j, rfl, hl.2, ?_, Fin.ok r1 h1 _ sr_range⟩
        have := hl.1
        omega
      · exact fin_none h1
    · rename_i e2
      cases e2
    · exact fin_none h1
  · exact fin_none h1
theorem txi_rng2 {f : FEs} : ∀ σ H R, TXi K mg E (fun env μ => rb (f env μ) fun ds μ1 => match ds with
  | [d, e] => dRng [d, e] μ1
  | _ => none) σ H R → iRng2 (TXs K mg E f) σ H R := by
  rintro σ H R ⟨c, env, ρ, G, μ, hK, hm, re, eo, h⟩
  refine txs_use hK hm re eo h fun ds vs ρ1 G1 μ1 H1 p1 e1 r1 eo1 hv h1 => ?_
  split at h1
  · obtain ⟨v, u, rfl, hv1, hu⟩ := reps2 hv
    unfold dRng at h1
    split at h1
    · rename_i e2
      cases e2
    · rename_i i j e2
      cases e2
      split at h1
      · rename_i hl
        cases hv1
        cases hu
        refine ⟨i, j, rfl, ?_, Fin.ok r1 h1 _ sr_range⟩
        have := hl.1
        have := hl.2.1
        omega
      · exact fin_none h1
    · exact fin_none h1
  · exact fin_none h1
/-- pairs of a place and an item -/
def enumD : Nat → List D → List D
  | _, [] => []
  | k, d :: r => .tup [.int (k : Nat), d] :: enumD (k + 1) r
theorem enumD_get : ∀ (ds : List D) (k i : Nat), (enumD k ds)[i]? = ds[i]?.map fun d => .tup [.int ((k + i : Nat) : Int), d]
  | [], _, _ => by simp [enumD]
  | d :: r, k, 0 => by simp [enumD]
  | d :: r, k, i + 1 => by
    show (enumD (k + 1) r)[i]? = _
    rw [enumD_get r (k + 1) i, show k + 1 + i = k + (i + 1) by omega]
    rfl
/-- the items of a list that nobody changes -/
def fixed (μ : Sto) : D → Option (List D)
  | .lst _ xs => some xs
  | .scr xs => some (xs.map .int)
  | .ref n => match μ[n]? with
    | some (.lst .fz xs) => some xs
    | _ => none
  | _ => none
theorem fixed_ok {c : Ct} {ρ : List Addr} {G H : Hp} {μ : Sto} (r : Rel c ρ G μ H) {d : D} {v : V} {xs : List D} (h : fixed μ d = some xs) (hv : Rep c.K c.B ρ G d v) : ∃ a vs, v = .ref a ∧ Reps c.K c.B ρ G xs vs ∧ ∀ (c' : Ct) (ρ' : List Addr) (G' : Hp) (μ' : Sto) (H' : Hp), c'.B = c.B → Same G G' → Rel c' ρ' G' μ' H' → SqL c.K H' a vs := by
  unfold fixed at h
  split at h
  · cases h
    obtain ⟨a, vs, rfl, q1, q2⟩ := hv
    exact ⟨a, vs, rfl, q2, fun c' ρ' G' μ' H' hB e r' => .inl (.inl (pick_same hB e r' q1))⟩
  · cases h
    obtain ⟨a, rfl, q1⟩ := hv
    exact ⟨a, _, rfl, Reps.ints, fun c' ρ' G' μ' H' hB e r' => sql_up (by rw [← hB]; exact r'.bh) q1⟩
  · rename_i n
    split at h
    · rename_i ys e0
      cases h
      obtain ⟨a, rfl, ha⟩ := hv
      obtain ⟨vs, q1, q2⟩ := r.cl n a _ ha e0
      exact ⟨a, vs, rfl, q2, fun c' ρ' G' μ' H' hB e r' => .inl (.inl (r'.gh _ _ (e _ _ q1)))⟩
    · cases h
  · cases h
def dEnum (ds : List D) (μ : Sto) : R Sr := match ds with
  | [d] => match fixed μ d with
    | some xs => ok (.fix (enumD 0 xs)) μ
    | none => none
  | _ => none
theorem txi_enum {f : FEs} : ∀ σ H R, TXi K mg E (fun env μ => rb (f env μ) dEnum) σ H R → iEnum K (TXs K mg E f) σ H R := by
  rintro σ H R ⟨c, env, ρ, G, μ, hK, hm, re, eo, h⟩
  subst hK
  refine txs_use rfl hm re eo h fun ds vs ρ1 G1 μ1 H1 p1 e1 r1 eo1 hv h1 => ?_
  unfold dEnum at h1
  split at h1
  · obtain ⟨v, rfl, hv1⟩ := reps1 hv
    split at h1
    · rename_i xs e0
      obtain ⟨a, us, rfl, q1, q2⟩ := fixed_ok r1 e0 hv1
      refine ⟨a, us, rfl, q2 c ρ1 G1 μ1 H1 rfl (Same.refl _) r1, Fin.ok r1 h1 _ ?_⟩
      intro c' ρ G μ H hK hB hL p e r i o ho
      have q := q2 c' ρ G μ H hB e r
      have q1' := q1.mono p e
      cases ho
      rw [enumD_get]
      cases ei : xs[i]? with
      | none =>
        refine ⟨us, q, ?_⟩
        have := List.getElem?_eq_none_iff.mp ei
        rw [q1.length] at this
        exact this
      | some d =>
        obtain ⟨v, w1, w2⟩ := q1'.get ei
        refine ⟨⟨us, v, q, w1⟩, fun x H' y => ?_⟩
        obtain ⟨T, z, rfl, hT, rfl, y⟩ := y
        have := y us q
        rw [w1] at this
        cases this
        refine ⟨_, same_upd (r.none_g hT), r.frozen hT, rep_updT (r.none_g hT) (xs := [.int ((0 + i : Nat) : Int), d]) ⟨_, _, rfl, ?_, _, _, rfl, w2, rfl⟩⟩
        rw [Nat.zero_add]
        rfl
    · exact fin_none h1
  · exact fin_none h1
def zipD : List D → List D → List D
  | d :: r, e :: s => .tup [d, e] :: zipD r s
  | _, _ => []
def both : Option D → Option D → Option D
  | some d, some e => some (.tup [d, e])
  | _, _ => none
theorem zipD_get : ∀ (ds es : List D) (i : Nat), (zipD ds es)[i]? = both ds[i]? es[i]?
  | [], _, _ => by simp [zipD, both]
  | d :: r, [], i => by
    show (none : Option D) = _
    cases (d :: r)[i]? <;> rfl
  | d :: r, e :: s, 0 => by simp [zipD, both]
  | d :: r, e :: s, i + 1 => by
    show (zipD r s)[i]? = _
    rw [zipD_get r s i]
    rfl
def dZip (ds : List D) (μ : Sto) : R Sr := match ds with
  | [d, e] => match fixed μ d, fixed μ e with
    | some xs, some ys => ok (.fix (zipD xs ys)) μ
    | _, _ => none
  | _ => none
theorem txi_zip {f : FEs} : ∀ σ H R, TXi K mg E (fun env μ => rb (f env μ) dZip) σ H R → iZip K (TXs K mg E f) σ H R := by
  rintro σ H R ⟨c, env, ρ, G, μ, hK, hm, re, eo, h⟩
  subst hK
  refine txs_use rfl hm re eo h fun ds vs ρ1 G1 μ1 H1 p1 e1 r1 eo1 hv h1 => ?_
  unfold dZip at h1
  split at h1
  · obtain ⟨v, u, rfl, hv1, hu⟩ := reps2 hv
    split at h1
    · rename_i xs ys e0 e0'
      obtain ⟨a, us, rfl, q1, q2⟩ := fixed_ok r1 e0 hv1
      obtain ⟨b, ws, rfl, k1, k2⟩ := fixed_ok r1 e0' hu
      refine ⟨a, b, us, ws, rfl, q2 c ρ1 G1 μ1 H1 rfl (Same.refl _) r1, k2 c ρ1 G1 μ1 H1 rfl (Same.refl _) r1, Fin.ok r1 h1 _ ?_⟩
      intro c' ρ G μ H hK hB hL p e r i o ho
      have q := q2 c' ρ G μ H hB e r
      have k := k2 c' ρ G μ H hB e r
      have q1' := q1.mono p e
      have k1' := k1.mono p e
      cases ho
      rw [zipD_get]
      cases ei : xs[i]? with
      | none =>
        refine ⟨us, ws, q, k, .inl ?_⟩
        have := List.getElem?_eq_none_iff.mp ei
        rw [q1.length] at this
        exact this
      | some d =>
        cases ej : ys[i]? with
        | none =>
          refine ⟨us, ws, q, k, .inr ?_⟩
          have := List.getElem?_eq_none_iff.mp ej
          rw [k1.length] at this
          exact this
        | some d' =>
          obtain ⟨v, w1, w2⟩ := q1'.get ei
          obtain ⟨v', w1', w2'⟩ := k1'.get ej
          refine ⟨⟨us, ws, v, v', q, k, w1, w1'⟩, fun x H' y => ?_⟩
          obtain ⟨T, z, z', rfl, hT, rfl, y, y'⟩ := y
          have h1 := y us q
          rw [w1] at h1
          cases h1
          have h2 := y' ws k
          rw [w1'] at h2
          cases h2
          exact ⟨_, same_upd (r.none_g hT), r.frozen hT, rep_updT (r.none_g hT) (xs := [d, d']) ⟨_, _, rfl, w2, _, _, rfl, w2', rfl⟩⟩
    · exact fin_none h1
  · exact fin_none h1
end
/-- zip of lists that stand locked -/
def dZipL (ds : List D) (μ : Sto) : R Sr := match ds with
  | [d, e] => rb (dSrc d μ) fun s1 μ1 => rb (dSrc e μ1) fun s2 μ2 => ok (.zip s1 s2) μ2
  | _ => none
/-- one side of a zip -/
def SrH (c : Ct) (s : Sr) (a : Addr) (ρ0 : List Addr) (G0 : Hp) : Prop := ∀ (c' : Ct) (ρ : List Addr) (G : Hp) (μ : Sto) (H : Hp), c'.K = c.K → c'.B = c.B → ρ0 <+: ρ → Same G0 G → Rel c' ρ G μ H → ∀ (i : Nat) (o : Option D), s.at μ i = some o → ∃ vs, SqL c.K H a vs ∧ match o with
  | none => vs.length ≤ i
  | some d => ∃ v, vs[i]? = some v ∧ Rep c.K c.B ρ G d v
theorem srh_fix {c : Ct} {ρ0 : List Addr} {G0 : Hp} {ds : List D} {vs : List V} {a : Addr} (hs : Reps c.K c.B ρ0 G0 ds vs) (ha : ∀ (c' : Ct) (ρ : List Addr) (G : Hp) (μ : Sto) (H : Hp), c'.B = c.B → Same G0 G → Rel c' ρ G μ H → SqL c.K H a vs) : SrH c (.fix ds) a ρ0 G0 := by
  intro c' ρ G μ H hK hB p e r i o ho
  refine ⟨vs, ha c' ρ G μ H hB e r, ?_⟩
  cases ho
  have hs' := hs.mono p e
  cases ei : ds[i]? with
  | none =>
    have := List.getElem?_eq_none_iff.mp ei
    rw [hs.length] at this
    exact this
  | some d => exact hs'.get ei
theorem srh_cell {c : Ct} {ρ0 : List Addr} {G0 : Hp} {n : Nat} {rs : Bool} {a : Addr} (ha : ρ0[n]? = some a) : SrH c (.cell n rs) a ρ0 G0 := by
  intro c' ρ G μ H hK hB p e r i o ho
  have ho' : (match μ[n]? with
    | some (.lst .lock xs) => some xs[i]?
    | _ => none) = some o := ho
  split at ho'
  · rename_i xs e0
    cases ho'
    obtain ⟨_, _, vs, q1, q2⟩ := r.cl n a _ (pre_get p ha) e0
    rw [hK, hB] at q2
    refine ⟨vs, .inl (.inl q1), ?_⟩
    cases ei : xs[i]? with
    | none =>
      have := List.getElem?_eq_none_iff.mp ei
      rw [q2.length] at this
      exact this
    | some d => exact q2.get ei
  · cases ho'
theorem src_use {c : Ct} {E : XK} {ρ : List Addr} {G H : Hp} {μ : Sto} {α : Type} {d : D} {v : V} {k : Sr → Sto → R α} {Q : α → List Addr → Hp → Sto → Hp → Prop} (r : Rel c ρ G μ H) (hv : Rep c.K c.B ρ G d v) (h : Fin c E ρ G (rb (dSrc d μ) k) Q) :
    ∃ a s μ1, v = .ref a ∧ (∃ vs, SqL c.K H a vs) ∧ SrH c s a ρ G ∧ Rel c ρ G μ1 H ∧ Fin c E ρ G (k s μ1) Q := by
  unfold dSrc at h
  split at h
  · obtain ⟨a, vs, rfl, q1, q2⟩ := hv
    exact ⟨a, _, _, rfl, ⟨vs, .inl (.inl (pick_h r q1))⟩, srh_fix q2 fun c' ρ G μ H hB e r => .inl (.inl (pick_same hB e r q1)), r, h⟩
  · obtain ⟨a, rfl, q1⟩ := hv
    exact ⟨a, _, _, rfl, ⟨_, sql_up r.bh q1⟩, srh_fix Reps.ints fun c' ρ G μ H hB e r => sql_up (by rw [← hB]; exact r.bh) q1, r, h⟩
  · rename_i n
    obtain ⟨a, rfl, ha⟩ := hv
    split at h
    · rename_i xs e0
      obtain ⟨_, _, vs, q1, q2⟩ := r.cl n a _ ha e0
      exact ⟨a, _, _, rfl, ⟨vs, .inl (.inl q1)⟩, srh_cell ha, r.mode e0 (y := .lst .lock xs) fun _ q => q, h⟩
    · rename_i xs e0
      obtain ⟨_, _, vs, q1, q2⟩ := r.cl n a _ ha e0
      exact ⟨a, _, _, rfl, ⟨vs, .inl (.inl q1)⟩, srh_cell ha, r, h⟩
    · rename_i xs e0
      obtain ⟨vs, q1, q2⟩ := r.cl n a _ ha e0
      exact ⟨a, _, _, rfl, ⟨vs, .inl (.inl (r.gh _ _ q1))⟩, srh_fix q2 fun c' ρ G μ H hB e r => .inl (.inl (r.gh _ _ (e _ _ q1))), r, h⟩
    · exact fin_none h
  · exact fin_none h
theorem txi_zipL {K : PySem.W.Frag} {mg : Str → Option Value} {E : XK} {f : FEs} : ∀ σ H R, TXi K mg E (fun env μ => rb (f env μ) dZipL) σ H R → iZip K (TXs K mg E f) σ H R := by
  rintro σ H R ⟨c, env, ρ, G, μ, hK, hm, re, eo, h⟩
  subst hK
  refine txs_use rfl hm re eo h fun ds vs ρ1 G1 μ1 H1 p1 e1 r1 eo1 hv h1 => ?_
  unfold dZipL at h1
  split at h1
  · obtain ⟨v, u, rfl, hv1, hu⟩ := reps2 hv
    obtain ⟨a, s1, μ2, rfl, ⟨us, q1⟩, h3, r2, h2⟩ := src_use r1 hv1 h1
    obtain ⟨b, s2, μ3, rfl, ⟨ws, q2⟩, h4, r3, h5⟩ := src_use r2 hu h2
    refine ⟨a, b, us, ws, rfl, q1, q2, Fin.ok r3 h5 _ ?_⟩
    intro c' ρ G μ H hK hB hL p e r i o ho
    have hA := h3 c' ρ G μ H hK hB p e r i
    have hBb := h4 c' ρ G μ H hK hB p e r i
    have ho' : (match Sr.at μ i s1, Sr.at μ i s2 with
      | some (some d), some (some e) => some (some (.tup [d, e]))
      | some none, some _ => some none
      | some (some _), some none => some none
      | _, _ => none) = some o := ho
    split at ho'
    · rename_i d e' w1 w2
      cases ho'
      obtain ⟨us, k1, z1, k2, k3⟩ := hA _ w1
      obtain ⟨ws, l1, z2, l2, l3⟩ := hBb _ w2
      refine ⟨⟨us, ws, z1, z2, k1, l1, k2, l2⟩, fun x H' y => ?_⟩
      obtain ⟨T, y1, y2, rfl, hT, rfl, y, y'⟩ := y
      have g1 := y us k1
      rw [k2] at g1
      cases g1
      have g2 := y' ws l1
      rw [l2] at g2
      cases g2
      exact ⟨_, same_upd (r.none_g hT), r.frozen hT, rep_updT (r.none_g hT) (xs := [d, e']) ⟨_, _, rfl, k3, _, _, rfl, l3, rfl⟩⟩
    · rename_i o2 w1 w2
      cases ho'
      obtain ⟨us, k1, k2⟩ := hA _ w1
      obtain ⟨ws, l1, _⟩ := hBb _ w2
      exact ⟨us, ws, k1, l1, .inl k2⟩
    · rename_i d w1 w2
      cases ho'
      obtain ⟨us, k1, _⟩ := hA _ w1
      obtain ⟨ws, l1, l2⟩ := hBb _ w2
      exact ⟨us, ws, k1, l1, .inr l2⟩
    · cases ho'
  · exact fin_none h1
/-! ### comprehensions -/
def noErr {α : Type} (r : R α) : R α := match r with
  | some (.error _) => none
  | r => r
theorem noErr_ok {α : Type} (a : α) (μ : Sto) : noErr (ok a μ) = ok a μ := rfl
def E0 : XK := fun _ _ _ => False
theorem Fin.noErr {c : Ct} {E E' : XK} {ρ : List Addr} {G : Hp} {α : Type} {r : R α} {Q : α → List Addr → Hp → Sto → Hp → Prop} (h : Fin c E ρ G (Lv.noErr r) Q) : Fin c E' ρ G r Q := by
  match r, h with
  | some (.ok (a, μ)), h => exact h
def condT (cond : Option FE) (env : Env) (μ : Sto) : R D := match cond with
  | none => ok (.bl true) μ
  | some f => noErr (f env μ)
def compN (tg : Tg) (cond : Option FE) (elt : FE) (s : Sr) (env : Env) : Nat → Nat → Sto → R (List D)
  | 0, _, _ => none
  | n + 1, i, μ => match s.at μ i with
    | none => none
    | some none => ok [] μ
    | some (some d) => match tg.bind d env with
      | none => none
      | some env' => rb (condT cond env' μ) fun t μ1 => match t with
        | .bl true => rb (noErr (elt env' μ1)) fun y μ2 => rb (compN tg cond elt s env n (i + 1) μ2) fun ys μ3 => ok (y :: ys) μ3
        | .bl false => compN tg cond elt s env n (i + 1) μ1
        | _ => none
def fComp (lv : Bool) (src : FSrc) (tg : Tg) (cond : Option FE) (elt : FE) (own : List Nat) : FE := fun env μ => rb (src env μ) fun s μ1 => if s.fuel μ1 ≤ LIM then rb (compN tg cond elt s (wipeE env own) (s.fuel μ1) 0 μ1) fun ys μ2 => alloc lv ys (s.free μ2) else none
def ttOf (K : PySem.W.Frag) (mg : Str → Option Value) (cond : Option FE) : TT := match cond with
  | none => tYes
  | some f => TXb K mg E0 f
theorem rb_assoc {α β γ : Type} (r : R α) (k : α → Sto → R β) (l : β → Sto → R γ) : rb (rb r k) l = rb r fun a μ => rb (k a μ) l := by
  cases r with
  | none => rfl
  | some e =>
    cases e with
    | error x => rfl
    | ok p => rfl
theorem comp_alloc {c : Ct} {E : XK} {ρ0 ρ : List Addr} {G0 G H : Hp} {μ : Sto} {K : PySem.W.Frag} {lv : Bool} {xs : List D} {vs : List V} {Q : VK} {p : Addr} (hK : c.K = K) (p0 : ρ0 <+: ρ) (g0 : Same G0 G) (r : Rel (c.pin p (.lst vs)) ρ G μ H) (hP : c.P p = none) (hs : Reps K c.B ρ G xs vs)
    (h : Fin c E ρ0 G0 (alloc lv xs μ) fun d ρ' G' _ H' => ∀ v, Rep K c.B ρ' G' d v → Q v H') : Q (.ref p) H := by
  subst hK
  obtain ⟨q1, q2, q3⟩ := r.gp p _ upd_same
  cases lv with
  | false => exact Fin.ok_at p0 (g0.trans (same_upd q1)) (r.unpin_fz hP fun _ z => by cases z) h _ (rep_upd q1 hs)
  | true =>
    refine Fin.ok_at (p0.trans (List.prefix_append _ _)) g0 (r.unpin_cell (x := .lst .live xs) hP ⟨q3, q1, vs, r.pin_at, hs.mono (List.prefix_append _ _) (Same.refl _)⟩) h _ ⟨p, rfl, ?_⟩
    rw [List.getElem?_append_right (by rw [r.ln]; exact Nat.le_refl _), r.ln, Nat.sub_self]
    rfl
theorem tx_comp {K : PySem.W.Frag} {mg : Str → Option Value} {E : XK} {lv : Bool} {src : FSrc} {tg : Tg} {cond : Option FE} {elt : FE} {own : List Nat} (hown : ∀ i ∈ tg.slots, i ∈ own) :
    ∀ σ H Q, TX K mg E (fComp lv src tg cond elt own) σ H Q → tLc (TXi K mg E src) (tg.g K) (ttOf K mg cond) (TX K mg E0 elt) own σ H Q := by
  rintro σ H Q ⟨c, env, ρ, G, μ, hK, hm, re, eo, h⟩
  subst hK
  refine ⟨c, env, ρ, G, μ, rfl, hm, re, eo, h.bind.imp fun s ρ1 G1 μ1 H1 p1 e1 r1 h1 J hJ D hD => ?_⟩
  have eo1 := eo.up p1 e1
  split at h1
  case isFalse => exact fin_none h1
  rename_i hf
  have hP : c.P D = none := r1.none_p hD
  refine ⟨fun i m H' => ∃ ρ' G' μ' acc vs, ρ1 <+: ρ' ∧ Same G1 G' ∧ Rel (c.pin D (.lst vs)) ρ' G' μ' H' ∧ Reps c.K c.B ρ' G' acc vs ∧ acc.length ≤ i ∧ i + m ≤ LIM ∧
      Fin c E ρ1 G1 (rb (compN tg cond elt s (wipeE env own) m i μ') fun ys μ2 => alloc lv (acc ++ ys) (s.free μ2)) (fun d ρ' G' _ H' => ∀ v, Rep c.K c.B ρ' G' d v → Q v H'), ⟨s.fuel μ1, ρ1, G1, μ1, [], [], List.prefix_refl _, Same.refl _, r1.pinned hD (fun _ z => by cases z), rfl, Nat.zero_le _, by omega, h1⟩, ?_⟩
  rintro i m H' ⟨ρ', G', μ', acc, vs, p2, e2, r2, hs, ha, hm', h2⟩
  cases m with
  | zero => exact fin_none h2
  | succ m =>
    unfold compN at h2
    have hj := hJ (c.pin D (.lst vs)) ρ' G' μ' H' rfl rfl rfl p2 e2 r2 i
    cases eo' : s.at μ' i with
    | none =>
      simp only [eo'] at h2
      exact fin_none h2
    | some o =>
      have hj' := hj o eo'
      cases o with
      | none =>
        simp only [eo'] at h2
        rw [rb_ok, List.append_nil] at h2
        exact .inl ⟨hj', comp_alloc rfl p2 e2 (r2.free s) hP hs h2⟩
      | some d =>
        simp only [eo'] at h2
        refine .inr ⟨hj'.1, _, fun H3 q => ⟨m, Nat.lt_succ_self m, q⟩, fun x H3 hy => ?_⟩
        obtain ⟨G3, e3, r3, hx⟩ := hj'.2 x H3 hy
        cases eb : tg.bind d (wipeE env own) with
        | none =>
          rw [eb] at h2
          exact fin_none h2
        | some env' =>
          simp only [eb] at h2
          rw [rb_assoc] at h2
          have eo3 : EnvOk (c.pin D (.lst vs)) ρ' G3 (wipeE env own) (wipe σ own) := (eo1.up p2 (e2.trans e3)).wipe own
          refine tg_ok (c := c.pin D (.lst vs)) r3 eo3 hx eb fun σ2 eo4 t => ⟨by rw [wipe_touch t hown, wipe_wipe], ?_⟩
          -- the element is made: it goes into the list
          have fin1 : ∀ {μ3 : Sto} {ρ3 : List Addr} {G4 : Hp} {H4 : Hp}, ρ' <+: ρ3 → Same G3 G4 → Rel (c.pin D (.lst vs)) ρ3 G4 μ3 H4 → EnvOk (c.pin D (.lst vs)) ρ3 G4 env' σ2 →
              Fin c E ρ1 G1 (rb (rb (noErr (elt env' μ3)) fun y μ2 => rb (compN tg cond elt s (wipeE env own) m (i + 1) μ2) fun ys μ3 => ok (y :: ys) μ3) fun ys μ2 => alloc lv (acc ++ ys) (s.free μ2)) (fun d ρ' G' _ H' => ∀ v, Rep c.K c.B ρ' G' d v → Q v H') →
              TX c.K mg E0 elt σ2 H4 fun y H5 => ∃ acc, H5 D = some (.lst acc) ∧ acc.length < sizeLine ∧ ∃ ρ' G' μ' acc' vs, ρ1 <+: ρ' ∧ Same G1 G' ∧ Rel (c.pin D (.lst vs)) ρ' G' μ' (upd H5 D (.lst (acc ++ [y]))) ∧ Reps c.K c.B ρ' G' acc' vs ∧ acc'.length ≤ i + 1 ∧ i + 1 + m ≤ LIM ∧
                Fin c E ρ1 G1 (rb (compN tg cond elt s (wipeE env own) m (i + 1) μ') fun ys μ2 => alloc lv (acc' ++ ys) (s.free μ2)) (fun d ρ' G' _ H' => ∀ v, Rep c.K c.B ρ' G' d v → Q v H') := fun {μ3 ρ3 G4 H4} p3 e4 r4 eo5 h3 => by
            refine ⟨c.pin D (.lst vs), env', ρ3, G4, μ3, rfl, hm, r4, eo5, ?_⟩
            cases er : elt env' μ3 with
            | none =>
              rw [er] at h3
              exact fin_none h3
            | some e =>
              cases e with
              | error x =>
                rw [er] at h3
                exact fin_none h3
              | ok pr =>
                obtain ⟨y, μ4⟩ := pr
                rw [er] at h3
                have h3' : Fin c E ρ1 G1 (rb (rb (compN tg cond elt s (wipeE env own) m (i + 1) μ4) fun ys μ3 => ok (y :: ys) μ3) fun ys μ2 => alloc lv (acc ++ ys) (s.free μ2)) (fun d ρ' G' _ H' => ∀ v, Rep c.K c.B ρ' G' d v → Q v H') := h3
                rw [rb_assoc] at h3'
                intro ρ4 G5 H5 p4 e5 r5 v hv
                have hs5 := (hs.mono (p3.trans p4) ((e3.trans e4).trans e5)).append (.one hv)
                have hl := hs.length
                refine ⟨vs, r5.pin_at, ?_, ρ4, G5, μ4, acc ++ [y], vs ++ [v], (p2.trans p3).trans p4, ((e2.trans e3).trans e4).trans e5, r5.repin (fun _ z => by cases z), hs5, by rw [List.length_append, List.length_singleton]; omega, by omega, ?_⟩
                · rw [← hl]
                  have : LIM < sizeLine := by decide
                  omega
                · simp only [rb_ok] at h3'
                  simpa only [List.append_assoc, List.singleton_append] using h3'
          cases cond with
          | none => exact fin1 (List.prefix_refl _) (Same.refl _) r3 eo4 h2
          | some cf =>
            refine ⟨c.pin D (.lst vs), env', ρ', G3, μ', rfl, hm, r3, eo4, ?_⟩
            cases er : cf env' μ' with
            | none =>
              simp only [condT, er] at h2
              exact fin_none h2
            | some e =>
              cases e with
              | error x =>
                simp only [condT, er] at h2
                exact fin_none h2
              | ok pr =>
                obtain ⟨y, μ4⟩ := pr
                simp only [condT, er] at h2
                intro ρ4 G5 H5 p4 e5 r5
                have h3 : Fin c E ρ1 G1 (rb (match y with
                  | .bl true => rb (noErr (elt env' μ4)) fun y μ2 => rb (compN tg (some cf) elt s (wipeE env own) m (i + 1) μ2) fun ys μ3 => ok (y :: ys) μ3
                  | .bl false => compN tg (some cf) elt s (wipeE env own) m (i + 1) μ4
                  | _ => none) fun ys μ2 => alloc lv (acc ++ ys) (s.free μ2)) (fun d ρ' G' _ H' => ∀ v, Rep c.K c.B ρ' G' d v → Q v H') := h2
                cases y with
                | bl b =>
                  refine ⟨b, rfl, ?_⟩
                  cases b with
                  | true => exact fin1 p4 e5 r5 (eo4.up p4 e5) h3
                  | false => exact ⟨ρ4, G5, μ4, acc, vs, p2.trans p4, (e2.trans e3).trans e5, r5, hs.mono p4 (e3.trans e5), by omega, by omega, h3⟩
                | _ => exact fin_none h3
end Lv
set_option Elab.async false
set_option linter.all false
set_option maxRecDepth 100000
set_option autoImplicit false
/-! lists' methods; statements -/
namespace Lv
open PySem PySem.Spec PyProof.Rows L2
/-! ### methods -/
inductive Mth where
  | append | extend | pop | popAt | remove | insert | clear | reverse | index
def live (μ : Sto) : D → Option (Nat × List D)
  | .ref n => match μ[n]? with
    | some (.lst .live xs) => some (n, xs)
    | _ => none
  | _ => none
theorem live_ok {c : Ct} {ρ : List Addr} {G H : Hp} {μ : Sto} (r : Rel c ρ G μ H) {d : D} {v : V} {n : Nat} {xs : List D} (h : live μ d = some (n, xs)) (hv : Rep c.K c.B ρ G d v) :
    ∃ a vs, v = .ref a ∧ ρ[n]? = some a ∧ c.B a = none ∧ G a = none ∧ H a = some (.lst vs) ∧ Reps c.K c.B ρ G xs vs := by
  unfold live at h
  split at h
  · rename_i m
    split at h
    · rename_i ys e0
      cases h
      obtain ⟨a, rfl, ha⟩ := hv
      obtain ⟨q0, q1, vs, q2, q3⟩ := r.cl n a _ ha e0
      exact ⟨a, vs, rfl, ha, q0, q1, q2, q3⟩
    · cases h
  · cases h
/-! lists of texts -/
def strsD : List D → Option (List Str)
  | [] => some []
  | .str x :: r => (strsD r).map (x :: ·)
  | _ :: _ => none
theorem strs_eq : ∀ {xs : List D} {zs : List Str}, strsD xs = some zs → xs = zs.map D.str
  | [], zs, h => by
    cases h
    rfl
  | .str x :: r, zs, h => by
    have h' : (strsD r).map (x :: ·) = some zs := h
    cases e2 : strsD r with
    | none =>
      rw [e2] at h'
      cases h'
    | some ys =>
      rw [e2] at h'
      cases h'
      rw [strs_eq e2]
      rfl
theorem rep_strs {K : PySem.W.Frag} {B : Hp} {ρ : List Addr} {G : Hp} : ∀ {ns : List Str} {vs : List V}, Reps K B ρ G (ns.map D.str) vs → vs = ns.map V.str
  | [], _, h => h
  | n :: ns, _, ⟨v, r, e, h1, h2⟩ => by
    subst e
    cases h1
    rw [rep_strs h2]
    rfl
theorem bind_strs {μ : Sto} {d : D} {ns : List Str} (h : (seeL μ d).bind strsD = some ns) : seeL μ d = some (ns.map D.str) := by
  cases e : seeL μ d with
  | none =>
    rw [e] at h
    cases h
  | some xs =>
    rw [e] at h
    rw [strs_eq h]
theorem all_flatS : ∀ ns : List Str, (ns.map V.str).all flatV = true
  | [] => rfl
  | n :: r => by
    show (flatV (.str n) && (r.map V.str).all flatV) = true
    rw [all_flatS r]
    rfl
theorem idx_firstS : ∀ {zs : List Str} {x : Str}, x ∈ zs → zs[zs.idxOf x]? = some x ∧ ∀ m : Nat, m < zs.idxOf x → zs[m]? ≠ some x
  | [], x, h => absurd h List.not_mem_nil
  | z :: r, x, h => by
    by_cases q : z = x
    · subst q
      rw [List.idxOf_cons_self]
      exact ⟨rfl, fun m hm => absurd hm (by omega)⟩
    · have hr : x ∈ r := (List.mem_cons.mp h).resolve_left fun e => q e.symm
      obtain ⟨h1, h2⟩ := idx_firstS hr
      have ei : (z :: r).idxOf x = r.idxOf x + 1 := by
        rw [List.idxOf_cons, show (z == x) = false from beq_eq_false_iff_ne.mpr q]
        rfl
      rw [ei]
      refine ⟨h1, fun m hm => ?_⟩
      cases m with
      | zero => exact fun e => q (Option.some.inj e)
      | succ m => exact h2 m (by omega)
def idxOf (k : Int) : List Int → Nat → Option Nat
  | [], _ => none
  | x :: r, i => if x = k then some i else idxOf k r (i + 1)
theorem idxOf_ok {k : Int} : ∀ {ns : List Int} {i j : Nat}, idxOf k ns i = some j → i ≤ j ∧ ns[j - i]? = some k ∧ ∀ m, m < j - i → ns[m]? ≠ some k
  | [], _, _, h => by cases h
  | x :: r, i, j, h => by
    unfold idxOf at h
    split at h
    · rename_i e
      cases h
      refine ⟨Nat.le_refl _, ?_, fun m hm => ?_⟩
      · rw [Nat.sub_self, ← e]
        rfl
      · omega
    · rename_i e
      obtain ⟨h1, h2, h3⟩ := idxOf_ok h
      have ej : j - i = (j - (i + 1)) + 1 := by omega
      refine ⟨by omega, ?_, fun m hm => ?_⟩
      · rw [ej]
        exact h2
      · cases m with
        | zero =>
          intro z
          exact e (Option.some.inj z)
        | succ m => exact h3 m (by omega)
def dMth (m : Mth) (d : D) (ds : List D) (μ : Sto) : R D := match m with
  | .index => match ds with
    | [.int k] => match (seeL μ d).bind intsD with
      | some ns => match idxOf k ns 0 with
        | some j => ok (.int (j : Nat)) μ
        | none => none
      | none => none
    | [.str k] => match (seeL μ d).bind strsD with
      | some ns => if k ∈ ns then ok (.int (ns.idxOf k : Nat)) μ else none
      | none => none
    | _ => none
  | m => match live μ d with
    | none => none
    | some (n, xs) => match m, ds with
      | .append, [y] => if xs.length < LIM then ok .non (μ.set n (.lst .live (xs ++ [y]))) else none
      | .extend, [e] => match see μ e with
        | some ys => if xs.length + ys.length ≤ LIM then ok .non (μ.set n (.lst .live (xs ++ ys))) else none
        | none => none
      | .pop, [] => match xs[xs.length - 1]? with
        | some y => ok y (μ.set n (.lst .live xs.dropLast))
        | none => none
      | .popAt, [.int i] => match ixN xs.length i with
        | some k => match xs[k]? with
          | some y => if i.natAbs ≤ LIM then ok y (μ.set n (.lst .live (xs.eraseIdx k))) else none
          | none => none
        | none => none
      | .remove, [.int k] => match intsD xs with
        | some ns => match idxOf k ns 0 with
          | some j => ok .non (μ.set n (.lst .live ((ns.eraseIdx j).map D.int)))
          | none => none
        | none => none
      | .insert, [.int i, y] => if xs.length < LIM ∧ 0 ≤ i ∧ i.natAbs ≤ LIM then ok .non (μ.set n (.lst .live (xs.take i.toNat ++ [y] ++ xs.drop i.toNat))) else none
      | .clear, [] => ok .non (μ.set n (.lst .live []))
      | .reverse, [] => ok .non (μ.set n (.lst .live xs.reverse))
      | _, _ => none
def Mth.r (K : PySem.W.Frag) : Mth → V → List V → Hp → VK → Prop
  | .append => rAppend | .extend => rExtend | .pop => rPop | .popAt => rPopAt | .remove => rRemI | .clear => rClear | .reverse => rReverse | .index => rIndex K
  | .insert => fun x vs H Q => ∃ (l : Addr) (xs : List V) (i : Int) (y : V), x = .ref l ∧ vs = [.int i, y] ∧ H l = some (.lst xs) ∧ xs.length < sizeLine ∧ 0 ≤ i ∧ i < 2 ^ 63 ∧ Q .non (upd H l (.lst (xs.take i.toNat ++ [y] ++ xs.drop i.toNat)))
def Mth.id : Mth → String
  | .append => "list.append" | .extend => "list.extend" | .pop => "list.pop" | .popAt => "list.pop" | .remove => "list.remove" | .insert => "list.insert" | .clear => "list.clear" | .reverse => "list.reverse" | .index => "list.index"
def Mth.nm : Mth → Str
  | .append => "append" | .extend => "extend" | .pop => "pop" | .popAt => "pop" | .remove => "remove" | .insert => "insert" | .clear => "clear" | .reverse => "reverse" | .index => "index"
theorem Mth.slot (m : Mth) : Slot "list" m.nm m.id := by
  cases m with
  | append => exact PySem.F.slot_list_append
  | extend => exact PySem.F.slot_list_extend
  | pop => exact PySem.F.slot_list_pop
  | popAt => exact PySem.F.slot_list_pop
  | remove => exact PySem.F.slot_list_remove
  | insert => exact PySem.F.slot_list_insert
  | clear => exact PySem.F.slot_list_clear
  | reverse => exact PySem.F.slot_list_reverse
  | index => exact PySem.F.slot_list_index
theorem Mth.ty (m : Mth) : typeOf (.builtin m.id) = pure (.type "method_descriptor") := by
  cases m with
  | append => exact PySem.F.type_list_append
  | extend => exact PySem.F.type_list_extend
  | pop => exact PySem.F.type_list_pop
  | popAt => exact PySem.F.type_list_pop
  | remove => exact PySem.F.type_list_remove
  | insert => exact PySem.F.type_list_insert
  | clear => exact PySem.F.type_list_clear
  | reverse => exact PySem.F.type_list_reverse
  | index => exact PySem.F.type_list_index
theorem Mth.mt {X : Cx} (m : Mth) : MtR X m.id (m.r X.K) := by
  cases m with
  | append => exact mt_append
  | extend => exact mt_extend
  | pop => exact mt_pop
  | popAt => exact mt_popAt
  | remove => exact mt_remove
  | insert => exact mt_insert
  | clear => exact mt_clear
  | reverse => exact mt_reverse
  | index => exact mt_index
theorem Reps.dropLast {K : PySem.W.Frag} {B : Hp} {ρ : List Addr} {G : Hp} {ds : List D} {vs : List V} (h : Reps K B ρ G ds vs) : Reps K B ρ G ds.dropLast vs.dropLast := by
  rw [List.dropLast_eq_take, List.dropLast_eq_take, h.length]
  exact h.take _
theorem all_flat : ∀ ns : List Int, (ns.map V.int).all flatV = true
  | [] => rfl
  | n :: r => by
    show (flatV (.int n) && (r.map V.int).all flatV) = true
    rw [all_flat r]
    rfl
section
variable {c : Ct} {E : XK} {ρ : List Addr} {G H : Hp} {μ : Sto} {K : PySem.W.Frag}
/-- a live list is written, a value handed back -/
theorem wr_use {n : Nat} {a : Addr} {xs : List D} {vs : List V} {Q : VK} {d : D} {v : V} (hK : c.K = K) (r : Rel c ρ G μ H) (ha : ρ[n]? = some a) (hb : c.B a = none) (hg : G a = none) (hs : Reps K c.B ρ G xs vs) (hv : Rep K c.B ρ G d v)
    (h : Fin c E ρ G (ok d (μ.set n (.lst .live xs))) fun d ρ' G' _ H' => ∀ v, Rep K c.B ρ' G' d v → Q v H') : Q v (upd H a (.lst vs)) := by
  subst hK
  exact Fin.ok (r.write (o := .lst vs) (x := .lst .live xs) ha hg hb (fun _ z => by cases z) ⟨hb, hg, vs, upd_same, hs⟩) h v hv
theorem mth_ok (m : Mth) {d : D} {ds : List D} {x : V} {vs : List V} {Q : VK} (hK : c.K = K) (r : Rel c ρ G μ H) (hx : Rep K c.B ρ G d x) (hs : Reps K c.B ρ G ds vs)
    (h : Fin c E ρ G (dMth m d ds μ) fun d ρ' G' _ H' => ∀ v, Rep K c.B ρ' G' d v → Q v H') : m.r K x vs H Q := by
  subst hK
  by_cases hi : m = .index
  · subst hi
    unfold dMth at h
    simp only at h
    split at h
    · rename_i k
      obtain ⟨u, rfl, hu⟩ := reps1 hs
      cases hu
      split at h
      · rename_i ns e1
        split at h
        · rename_i j e2
          obtain ⟨a, us, rfl, h1, h2⟩ := seeL_ok r (bind_ints e1) hx
          rw [rep_ints h2] at h1
          obtain ⟨_, h4, h5⟩ := idxOf_ok e2
          rw [Nat.sub_zero] at h4 h5
          refine ⟨a, _, _, j, .int k, rfl, rfl, h1, rfl, all_flat ns, ?_, ?_, fun m z hm hz => ?_, Fin.ok r h _ rfl⟩
          · rw [List.getElem?_map, h4]
            rfl
          · show (k == k) = true
            simp
          · rw [List.getElem?_map] at hz
            cases e3 : ns[m]? with
            | none =>
              rw [e3] at hz
              cases hz
            | some w =>
              rw [e3] at hz
              cases hz
              show (w == k) = false
              have := h5 m hm
              rw [e3] at this
              exact beq_eq_false_iff_ne.mpr fun e => this (by rw [e])
        · exact fin_none h
      · exact fin_none h
    · rename_i k
      obtain ⟨u, rfl, hu⟩ := reps1 hs
      cases hu
      split at h
      · rename_i ns e1
        split at h
        · rename_i hk
          obtain ⟨a, us, rfl, h1, h2⟩ := seeL_ok r (bind_strs e1) hx
          rw [rep_strs h2] at h1
          obtain ⟨h4, h5⟩ := idx_firstS hk
          refine ⟨a, _, _, _, .str k, rfl, rfl, h1, rfl, all_flatS ns, ?_, ?_, fun m z hm hz => ?_, Fin.ok r h _ rfl⟩
          · rw [List.getElem?_map, h4]
            rfl
          · show (k == k) = true
            simp
          · rw [List.getElem?_map] at hz
            cases e3 : ns[m]? with
            | none =>
              rw [e3] at hz
              cases hz
            | some w =>
              rw [e3] at hz
              cases hz
              show (w == k) = false
              have := h5 m hm
              rw [e3] at this
              exact beq_eq_false_iff_ne.mpr fun e => this (by rw [e])
        · exact fin_none h
      · exact fin_none h
    · exact fin_none h
  · have h' : Fin c E ρ G (match live μ d with
      | none => none
      | some (n, xs) => match m, ds with
        | .append, [y] => if xs.length < LIM then ok .non (μ.set n (.lst .live (xs ++ [y]))) else none
        | .extend, [e] => match see μ e with
          | some ys => if xs.length + ys.length ≤ LIM then ok .non (μ.set n (.lst .live (xs ++ ys))) else none
          | none => none
        | .pop, [] => match xs[xs.length - 1]? with
          | some y => ok y (μ.set n (.lst .live xs.dropLast))
          | none => none
        | .popAt, [.int i] => match ixN xs.length i with
          | some k => match xs[k]? with
            | some y => if i.natAbs ≤ LIM then ok y (μ.set n (.lst .live (xs.eraseIdx k))) else none
            | none => none
          | none => none
        | .remove, [.int k] => match intsD xs with
          | some ns => match idxOf k ns 0 with
            | some j => ok .non (μ.set n (.lst .live ((ns.eraseIdx j).map D.int)))
            | none => none
          | none => none
        | .insert, [.int i, y] => if xs.length < LIM ∧ 0 ≤ i ∧ i.natAbs ≤ LIM then ok .non (μ.set n (.lst .live (xs.take i.toNat ++ [y] ++ xs.drop i.toNat))) else none
        | .clear, [] => ok .non (μ.set n (.lst .live []))
        | .reverse, [] => ok .non (μ.set n (.lst .live xs.reverse))
        | _, _ => none) (fun d ρ' G' _ H' => ∀ v, Rep c.K c.B ρ' G' d v → Q v H') := by
      cases m <;> first | exact h | exact absurd rfl hi
    cases el : live μ d with
    | none =>
      rw [el] at h'
      exact fin_none h'
    | some p =>
      obtain ⟨n, xs⟩ := p
      rw [el] at h'
      simp only at h'
      obtain ⟨a, us, rfl, ha, hb, hg, hH, hr⟩ := live_ok r el hx
      have hl := hr.length
      have hsz : LIM < sizeLine := by decide
      split at h'
      · split at h'
        · rename_i y hlt
          obtain ⟨u, rfl, hu⟩ := reps1 hs
          exact ⟨a, us, u, rfl, rfl, hH, by omega, wr_use rfl r ha hb hg (hr.append (.one hu)) (d := .non) rfl h'⟩
        · exact fin_none h'
      · split at h'
        · rename_i ys e1
          split at h'
          · rename_i hlt
            obtain ⟨u, rfl, hu⟩ := reps1 hs
            obtain ⟨b, ws, rfl, h1, h2⟩ := see_ok r e1 hu
            have hl2 := h2.length
            exact ⟨a, b, us, ws, rfl, rfl, hH, h1, by omega, wr_use rfl r ha hb hg (hr.append h2) (d := .non) rfl h'⟩
          · exact fin_none h'
        · exact fin_none h'
      · split at h'
        · rename_i y e1
          cases hs
          obtain ⟨u, h1, h2⟩ := hr.get e1
          rw [hl] at h1
          exact ⟨a, us, u, rfl, rfl, hH, h1, wr_use rfl r ha hb hg hr.dropLast h2 h'⟩
        · exact fin_none h'
      · split at h'
        · rename_i k e1
          split at h'
          · rename_i y e2
            split at h'
            · rename_i hz
              obtain ⟨u, rfl, hu⟩ := reps1 hs
              cases hu
              obtain ⟨w, h1, h2⟩ := hr.get e2
              rw [hl] at e1
              obtain ⟨q1, q2, q3, q4⟩ := ixN_seq e1
              have h63 : LIM < 2 ^ 63 := by decide
              exact ⟨a, us, _, k, w, rfl, rfl, hH, by omega, by omega, q1, h1, wr_use rfl r ha hb hg (hr.eraseIdx k) h2 h'⟩
            · exact fin_none h'
          · exact fin_none h'
        · exact fin_none h'
      · split at h'
        · rename_i ns e1
          split at h'
          · rename_i j e2
            obtain ⟨u, rfl, hu⟩ := reps1 hs
            cases hu
            have ex := ints_eq e1
            subst ex
            have ev := rep_ints hr
            subst ev
            obtain ⟨_, h4, h5⟩ := idxOf_ok e2
            rw [Nat.sub_zero] at h4 h5
            exact ⟨a, ns, _, j, rfl, rfl, hH, h4, h5, wr_use rfl r ha hb hg Reps.ints (d := .non) rfl h'⟩
          · exact fin_none h'
        · exact fin_none h'
      · split at h'
        · rename_i hlt
          obtain ⟨u, w, rfl, hu, hw⟩ := reps2 hs
          cases hu
          have h63 : LIM < 2 ^ 63 := by decide
          have := hlt.2.2
          exact ⟨a, us, _, w, rfl, rfl, hH, by have := hlt.1; omega, hlt.2.1, by have := hlt.2.1; omega, wr_use rfl r ha hb hg (((hr.take _).append (.one hw)).append (hr.drop _)) (d := .non) rfl h'⟩
        · exact fin_none h'
      · cases hs
        exact ⟨a, us, rfl, rfl, hH, wr_use rfl r ha hb hg (xs := []) rfl (d := .non) rfl h'⟩
      · cases hs
        exact ⟨a, us, rfl, rfl, hH, wr_use rfl r ha hb hg hr.reverse (d := .non) rfl h'⟩
      · exact fin_none h'
end
def isList (μ : Sto) (d : D) : Bool := (seeL μ d).isSome
def fMth (m : Mth) (ft : FE) (fs : FEs) : FE := fun env μ => rb (ft env μ) fun d μ1 => if isList μ1 d = true then rb (fs env μ1) fun ds μ2 => dMth m d ds μ2 else none
def fMth0 (m : Mth) (ft : FE) : FE := fun env μ => rb (ft env μ) fun d μ1 => if isList μ1 d = true then dMth m d [] μ1 else none
section
variable {K : PySem.W.Frag} {mg : Str → Option Value} {E : XK}
theorem isList_ok {c : Ct} {ρ : List Addr} {G H : Hp} {μ : Sto} (r : Rel c ρ G μ H) {d : D} {v : V} (h : isList μ d = true) (hv : Rep c.K c.B ρ G d v) : tyV c.K "list" v H := by
  unfold isList at h
  cases e : seeL μ d with
  | none =>
    rw [e] at h
    cases h
  | some xs =>
    obtain ⟨a, vs, rfl, h1, h2⟩ := seeL_ok r e hv
    exact .inl ⟨rfl, vs, h1⟩
theorem tx_mth {m : Mth} {ft : FE} {fs : FEs} : ∀ σ H Q, TX K mg E (fMth m ft fs) σ H Q → tBM K "list" (m.r K) (TX K mg E ft) (TXs K mg E fs) σ H Q := by
  rintro σ H Q ⟨c, env, ρ, G, μ, hK, hm, re, eo, h⟩
  subst hK
  refine tx_use rfl hm re eo h fun d v ρ1 G1 μ1 H1 p1 e1 r1 eo1 hv h1 => ?_
  split at h1
  · rename_i hl
    refine ⟨isList_ok r1 hl hv, txs_use rfl hm r1 eo1 h1 fun ds vs ρ2 G2 μ2 H2 p2 e2 r2 eo2 hvs h2 => ?_⟩
    exact mth_ok m rfl r2 (hv.mono p2 e2) hvs h2
  · exact fin_none h1
theorem tx_mth0 {m : Mth} {ft : FE} : ∀ σ H Q, TX K mg E (fMth0 m ft) σ H Q → tBM0 K "list" (m.r K) (TX K mg E ft) σ H Q := by
  rintro σ H Q ⟨c, env, ρ, G, μ, hK, hm, re, eo, h⟩
  subst hK
  refine tx_use rfl hm re eo h fun d v ρ1 G1 μ1 H1 p1 e1 r1 eo1 hv h1 => ?_
  split at h1
  · rename_i hl
    exact ⟨isList_ok r1 hl hv, mth_ok m rfl r1 hv (ds := []) rfl h1⟩
  · exact fin_none h1
end
/-! ### freezing -/
/-- many, from the left -/
def frs (f : D → Sto → Option (D × Sto)) : List D → Sto → Option (List D × Sto)
  | [], μ => some ([], μ)
  | d :: r, μ => match f d μ with
    | none => none
    | some (e, μ1) => match frs f r μ1 with
      | none => none
      | some (es, μ2) => some (e :: es, μ2)
def fvs {κ : Type} (f : D → Sto → Option (D × Sto)) : List (κ × D) → Sto → Option (List (κ × D) × Sto)
  | [], μ => some ([], μ)
  | (k, d) :: r, μ => match f d μ with
    | none => none
    | some (e, μ1) => match fvs f r μ1 with
      | none => none
      | some (es, μ2) => some ((k, e) :: es, μ2)
/-- from here on nobody changes it -/
def frz : Nat → D → Sto → Option (D × Sto)
  | _, .non, μ => some (.non, μ)
  | _, .bl b, μ => some (.bl b, μ)
  | _, .int i, μ => some (.int i, μ)
  | _, .str x, μ => some (.str x, μ)
  | _, .scr xs, μ => some (.scr xs, μ)
  | _, .lst b xs, μ => some (.lst b xs, μ)
  | _, .dK b xs, μ => some (.dK b xs, μ)
  | _, .dT b xs, μ => some (.dT b xs, μ)
  | n + 1, .tup xs, μ => (frs (frz n) xs μ).map fun p => (.tup p.1, p.2)
  | n + 1, .ref k, μ => match μ[k]? with
    | some (.lst .fz xs) => some (.lst false xs, μ)
    | some (.lst .live xs) => (frs (frz n) xs μ).map fun p => (.lst false p.1, p.2.set k (.lst .fz p.1))
    | some (.dK .fz xs) => some (.dK false xs, μ)
    | some (.dK .live xs) => (fvs (frz n) xs μ).map fun p => (.dK false p.1, p.2.set k (.dK .fz p.1))
    | some (.dT .fz xs) => some (.dT false xs, μ)
    | some (.dT .live xs) => (fvs (frz n) xs μ).map fun p => (.dT false p.1, p.2.set k (.dT .fz p.1))
    | _ => none
  | 0, .tup _, _ => none
  | 0, .ref _, _ => none
section
variable {c : Ct} {ρ : List Addr} {H : Hp}
/-- what freezing gives -/
def FrzOk (c : Ct) (ρ : List Addr) (H : Hp) (f : D → Sto → Option (D × Sto)) : Prop := ∀ (d : D) (μ : Sto) (e : D) (μ' : Sto) (G : Hp), f d μ = some (e, μ') → Rel c ρ G μ H → ∃ G', Same G G' ∧ Rel c ρ G' μ' H ∧ ∀ v, Rep c.K c.B ρ G d v → Rep c.K c.B ρ G' e v
theorem frs_ok {f : D → Sto → Option (D × Sto)} (hf : FrzOk c ρ H f) : ∀ (ds : List D) (μ : Sto) (es : List D) (μ' : Sto) (G : Hp), frs f ds μ = some (es, μ') → Rel c ρ G μ H → ∃ G', Same G G' ∧ Rel c ρ G' μ' H ∧ ∀ vs, Reps c.K c.B ρ G ds vs → Reps c.K c.B ρ G' es vs
  | [], μ, es, μ', G, h, r => by
    cases h
    exact ⟨G, Same.refl _, r, fun _ q => q⟩
  | d :: ds, μ, es, μ', G, h, r => by
    unfold frs at h
    cases e1 : f d μ with
    | none =>
      rw [e1] at h
      cases h
    | some p =>
      obtain ⟨e, μ1⟩ := p
      rw [e1] at h
      simp only at h
      cases e2 : frs f ds μ1 with
      | none =>
        rw [e2] at h
        cases h
      | some q =>
        obtain ⟨es2, μ2⟩ := q
        rw [e2] at h
        cases h
        obtain ⟨G1, s1, r1, q1⟩ := hf d μ e μ1 G e1 r
        obtain ⟨G2, s2, r2, q2⟩ := frs_ok hf ds μ1 es2 _ G1 e2 r1
        exact ⟨G2, s1.trans s2, r2, fun vs ⟨v, t, ev, h1, h2⟩ => ⟨v, t, ev, (q1 v h1).mono (List.prefix_refl _) s2, q2 t (h2.mono (List.prefix_refl _) s1)⟩⟩
theorem fvsK_ok {f : D → Sto → Option (D × Sto)} (hf : FrzOk c ρ H f) : ∀ (ds : List (Key × D)) (μ : Sto) (es : List (Key × D)) (μ' : Sto) (G : Hp), fvs f ds μ = some (es, μ') → Rel c ρ G μ H → ∃ G', Same G G' ∧ Rel c ρ G' μ' H ∧ ∀ vs, RepK c.K c.B ρ G ds vs → RepK c.K c.B ρ G' es vs
  | [], μ, es, μ', G, h, r => by
    cases h
    exact ⟨G, Same.refl _, r, fun _ q => q⟩
  | (k, d) :: ds, μ, es, μ', G, h, r => by
    unfold fvs at h
    cases e1 : f d μ with
    | none =>
      simp only [e1] at h
      cases h
    | some p =>
      obtain ⟨e, μ1⟩ := p
      simp only [e1] at h
      cases e2 : fvs f ds μ1 with
      | none =>
        simp only [e2] at h
        cases h
      | some q =>
        obtain ⟨es2, μ2⟩ := q
        simp only [e2] at h
        cases h
        obtain ⟨G1, s1, r1, q1⟩ := hf d μ e μ1 G e1 r
        obtain ⟨G2, s2, r2, q2⟩ := fvsK_ok hf ds μ1 es2 _ G1 e2 r1
        exact ⟨G2, s1.trans s2, r2, fun vs ⟨v, t, ev, h1, h2⟩ => ⟨v, t, ev, (q1 v h1).mono (List.prefix_refl _) s2, q2 t (h2.mono (List.prefix_refl _) s1)⟩⟩
theorem fvsT_ok {f : D → Sto → Option (D × Sto)} (hf : FrzOk c ρ H f) : ∀ (ds : List (List Key × D)) (μ : Sto) (es : List (List Key × D)) (μ' : Sto) (G : Hp), fvs f ds μ = some (es, μ') → Rel c ρ G μ H → ∃ G', Same G G' ∧ Rel c ρ G' μ' H ∧ ∀ vs, RepT c.K c.B ρ G ds vs → RepT c.K c.B ρ G' es vs
  | [], μ, es, μ', G, h, r => by
    cases h
    exact ⟨G, Same.refl _, r, fun _ q => q⟩
  | (k, d) :: ds, μ, es, μ', G, h, r => by
    unfold fvs at h
    cases e1 : f d μ with
    | none =>
      simp only [e1] at h
      cases h
    | some p =>
      obtain ⟨e, μ1⟩ := p
      simp only [e1] at h
      cases e2 : fvs f ds μ1 with
      | none =>
        simp only [e2] at h
        cases h
      | some q =>
        obtain ⟨es2, μ2⟩ := q
        simp only [e2] at h
        cases h
        obtain ⟨G1, s1, r1, q1⟩ := hf d μ e μ1 G e1 r
        obtain ⟨G2, s2, r2, q2⟩ := fvsT_ok hf ds μ1 es2 _ G1 e2 r1
        exact ⟨G2, s1.trans s2, r2, fun vs ⟨v, t, ev, h1, h2⟩ => ⟨v, t, ev, (q1 v h1).mono (List.prefix_refl _) s2, q2 t (h2.mono (List.prefix_refl _) s1)⟩⟩
/-- a live object at a cell's place becomes one that nobody changes -/
theorem Rel.fz {G : Hp} {μ : Sto} {n : Nat} {a : Addr} {x : Cell} {o : HO} (r : Rel c ρ G μ H) (ha : ρ[n]? = some a) (hb : c.B a = none) (hH : H a = some o) (ht : ∀ vs, o ≠ .tup vs) (hs : Same G (upd G a o)) (hx : CellOk c ρ (upd G a o) H x a) : Rel c ρ (upd G a o) (μ.set n x) H := by
  have hr : a ∈ ρ := List.mem_of_getElem? ha
  refine ⟨fun b y e => ?_, r.bh, r.ph, fun b vs e => ?_, r.g0.trans hs, fun b y e => ?_, fun b y e => ?_, by rw [List.length_set]; exact r.ln, r.nd, fun m b y e1 e2 => ?_⟩
  · by_cases q : b = a
    · subst q
      rw [upd_same] at e
      cases e
      exact hH
    · rw [upd_ne q] at e
      exact r.gh _ _ e
  · have na : b ≠ a := fun z => by
      rw [z, hH] at e
      exact absurd (Option.some.inj e) (ht vs)
    rw [upd_ne na]
    exact r.tp _ _ e
  · by_cases q : b = a
    · subst q
      exact .inr hb
    · rw [upd_ne q] at e
      exact r.nw b y e
  · obtain ⟨w1, w2, w3⟩ := r.gp b y e
    have na : b ≠ a := fun z => w2 (by rw [z]; exact hr)
    exact ⟨by rw [upd_ne na]; exact w1, w2, w3⟩
  · by_cases hm : n = m
    · subst hm
      rw [ha] at e1
      cases e1
      have hn : n < μ.length := by
        rw [← r.ln]
        exact (List.getElem?_eq_some_iff.mp ha).1
      rw [List.getElem?_set_self hn] at e2
      cases e2
      exact hx
    · rw [List.getElem?_set_ne hm] at e2
      have na : b ≠ a := fun z => by
        subst z
        obtain ⟨l1, k1⟩ := List.getElem?_eq_some_iff.mp ha
        obtain ⟨l2, k2⟩ := List.getElem?_eq_some_iff.mp e1
        exact hm ((List.getElem_inj r.nd).mp (k1.trans k2.symm))
      exact (r.cl m b y e1 e2).mono (List.prefix_refl _) hs fun g0 _ u q => ⟨by rw [upd_ne na]; exact g0, q⟩
/-- the object at a, whatever G knew of it -/
theorem fz_same {G : Hp} {a : Addr} {o : HO} {μ : Sto} (r : Rel c ρ G μ H) (hH : H a = some o) : Same G (upd G a o) := fun b y e => by
  by_cases q : b = a
  · subst q
    have := r.gh _ _ e
    rw [hH] at this
    cases this
    exact upd_same
  · rw [upd_ne q]
    exact e
theorem frz_ok : ∀ n : Nat, FrzOk c ρ H (frz n) := by
  intro n
  induction n with
  | zero =>
    intro d μ e μ' G h r
    cases d <;> first
      | (cases h; exact ⟨G, Same.refl _, r, fun _ q => q⟩)
      | cases h
  | succ n ih =>
    intro d μ e μ' G h r
    cases d with
    | tup xs =>
      obtain ⟨p, e1, e2⟩ := map_some (show (frs (frz n) xs μ).map (fun p => (D.tup p.1, p.2)) = some (e, μ') from h)
      cases e2
      obtain ⟨G1, s1, r1, q1⟩ := frs_ok ih xs μ p.1 p.2 G e1 r
      exact ⟨G1, s1, r1, fun v ⟨a, vs, ev, h1, h2⟩ => ⟨a, vs, ev, s1 _ _ h1, q1 vs h2⟩⟩
    | ref k =>
      unfold frz at h
      split at h
      · rename_i xs e0
        cases h
        refine ⟨G, Same.refl _, r, fun v ⟨a, ev, ha⟩ => ?_⟩
        obtain ⟨vs, w1, w2⟩ := r.cl k a _ ha e0
        exact ⟨a, vs, ev, w1, w2⟩
      · rename_i xs e0
        obtain ⟨p, e1, e2⟩ := map_some h
        cases e2
        obtain ⟨G1, s1, r1, q1⟩ := frs_ok ih xs μ p.1 p.2 G e1 r
        have hk : k < ρ.length := by
          rw [r.ln]
          exact (List.getElem?_eq_some_iff.mp e0).1
        have ha : ρ[k]? = some ρ[k] := List.getElem?_eq_getElem hk
        obtain ⟨w0, w1, vs, w2, w3⟩ := r.cl k _ _ ha e0
        have sm := fz_same r1 w2
        refine ⟨upd G1 ρ[k] (.lst vs), s1.trans sm, r1.fz ha w0 w2 (fun _ z => by cases z) sm ⟨vs, upd_same, (q1 vs w3).mono (List.prefix_refl _) sm⟩, fun v ⟨a, ev, ha'⟩ => ?_⟩
        rw [ha] at ha'
        cases ha'
        exact ⟨_, vs, ev, upd_same, (q1 vs w3).mono (List.prefix_refl _) sm⟩
      · rename_i xs e0
        cases h
        refine ⟨G, Same.refl _, r, fun v ⟨a, ev, ha⟩ => ?_⟩
        obtain ⟨vs, w1, w2⟩ := r.cl k a _ ha e0
        exact ⟨a, vs, ev, w1, w2⟩
      · rename_i xs e0
        obtain ⟨p, e1, e2⟩ := map_some h
        cases e2
        obtain ⟨G1, s1, r1, q1⟩ := fvsK_ok ih xs μ p.1 p.2 G e1 r
        have hk : k < ρ.length := by
          rw [r.ln]
          exact (List.getElem?_eq_some_iff.mp e0).1
        have ha : ρ[k]? = some ρ[k] := List.getElem?_eq_getElem hk
        obtain ⟨w0, w1, vs, w2, w3⟩ := r.cl k _ _ ha e0
        have sm := fz_same r1 w2
        refine ⟨upd G1 ρ[k] (.dK vs), s1.trans sm, r1.fz ha w0 w2 (fun _ z => by cases z) sm ⟨vs, upd_same, (q1 vs w3).mono (List.prefix_refl _) sm⟩, fun v ⟨a, ev, ha'⟩ => ?_⟩
        rw [ha] at ha'
        cases ha'
        exact ⟨_, vs, ev, upd_same, (q1 vs w3).mono (List.prefix_refl _) sm⟩
      · rename_i xs e0
        cases h
        refine ⟨G, Same.refl _, r, fun v ⟨a, ev, ha⟩ => ?_⟩
        obtain ⟨vs, w1, w2⟩ := r.cl k a _ ha e0
        exact ⟨a, vs, ev, w1, w2⟩
      · rename_i xs e0
        obtain ⟨p, e1, e2⟩ := map_some h
        cases e2
        obtain ⟨G1, s1, r1, q1⟩ := fvsT_ok ih xs μ p.1 p.2 G e1 r
        have hk : k < ρ.length := by
          rw [r.ln]
          exact (List.getElem?_eq_some_iff.mp e0).1
        have ha : ρ[k]? = some ρ[k] := List.getElem?_eq_getElem hk
        obtain ⟨w0, w1, vs, w2, w3⟩ := r.cl k _ _ ha e0
        have sm := fz_same r1 w2
        refine ⟨upd G1 ρ[k] (.dT vs), s1.trans sm, r1.fz ha w0 w2 (fun _ z => by cases z) sm ⟨vs, upd_same, (q1 vs w3).mono (List.prefix_refl _) sm⟩, fun v ⟨a, ev, ha'⟩ => ?_⟩
        rw [ha] at ha'
        cases ha'
        exact ⟨_, vs, ev, upd_same, (q1 vs w3).mono (List.prefix_refl _) sm⟩
      · cases h
    | _ =>
      cases h
      exact ⟨G, Same.refl _, r, fun _ q => q⟩
end
def dFrz (d : D) (μ : Sto) : R D := match frz 6 d μ with
  | some (e, μ') => ok e μ'
  | none => none
def fFrz (f : FE) : FE := fun env μ => rb (f env μ) dFrz
theorem tx_frz {K : PySem.W.Frag} {mg : Str → Option Value} {E : XK} {f : FE} : ∀ σ H Q, TX K mg E (fFrz f) σ H Q → TX K mg E f σ H Q := by
  rintro σ H Q ⟨c, env, ρ, G, μ, hK, hm, re, eo, h⟩
  subst hK
  refine tx_use rfl hm re eo h fun d v ρ1 G1 μ1 H1 p1 e1 r1 eo1 hv h1 => ?_
  unfold dFrz at h1
  split at h1
  · rename_i e μ' e2
    obtain ⟨G', s', r', q'⟩ := frz_ok 6 d μ1 e μ' G1 e2 r1
    exact Fin.ok_at (List.prefix_refl _) s' r' h1 v (q' v hv)
  · exact fin_none h1
end Lv
set_option Elab.async false
set_option linter.all false
set_option maxRecDepth 100000
set_option autoImplicit false
/-! statements -/
namespace Lv
open PySem PySem.Spec PyProof.Rows L2
inductive Fl where
  | nx (e : Env) | rt (d : D)
abbrev FS := Env → Sto → R Fl
def flQ (c : Ct) (Dn : Ends) : Fl → List Addr → Hp → Sto → Hp → Prop := fun fl ρ G _ H => match fl with
  | .nx env => ∀ σ, EnvOk c ρ G env σ → Dn.nx σ H
  | .rt d => ∀ v, Rep c.K c.B ρ G d v → Dn.rt v H
def TSx (K : PySem.W.Frag) (mg : Str → Option Value) (E : XK) (f : FS) : TS := fun Dn σ H => ∃ c env ρ G μ, c.K = K ∧ c.mg = mg ∧ Rel c ρ G μ H ∧ EnvOk c ρ G env σ ∧ Fin c E ρ G (f env μ) (flQ c Dn)
def sNext : FS := fun env μ => ok (.nx env) μ
def sSeq (f g : FS) : FS := fun env μ => rb (f env μ) fun fl μ1 => match fl with
  | .nx e => g e μ1
  | .rt d => ok (.rt d) μ1
def sRet (f : FE) : FS := fun env μ => rb (f env μ) fun d μ1 => ok (.rt d) μ1
def sRetN : FS := fun _ μ => ok (.rt .non) μ
def sDrop (f : FE) : FS := fun env μ => rb (f env μ) fun _ μ1 => ok (.nx env) μ1
def sAsg (tg : Tg) (f : FE) : FS := fun env μ => rb (f env μ) fun d μ1 => match tg.bind d env with
  | some e => ok (.nx e) μ1
  | none => none
def sPar (i j : Nat) (f g : FE) : FS := fun env μ => rb (f env μ) fun d μ1 => rb (g env μ1) fun e μ2 => ok (.nx ((env.set i (some d)).set j (some e))) μ2
def dSet (o i d : D) (μ : Sto) : R Unit := match live μ o, i with
  | some (n, xs), .int k => match ixN xs.length k with
    | some j => ok () (μ.set n (.lst .live (xs.set j d)))
    | none => none
  | _, _ => none
def sSetIx (fo fi fv : FE) : FS := fun env μ => rb (fv env μ) fun d μ1 => rb (fo env μ1) fun o μ2 => rb (fi env μ2) fun i μ3 => rb (dSet o i d μ3) fun _ μ4 => ok (.nx env) μ4
inductive Aop where
  | add | sub | mul
def Aop.op : Aop → Operator
  | .add => .Add | .sub => .Sub | .mul => .Mult
def Aop.d : Aop → D → D → Sto → R D
  | .add, .int i, .int j, μ => ok (.int (i + j)) μ
  | .sub, .int i, .int j, μ => ok (.int (i - j)) μ
  | .mul, .int i, .int j, μ => if mulOk i j = true then ok (.int (i * j)) μ else none
  | _, _, _, _ => none
def Aop.r : Aop → TIp
  | .add => rI0 fun i j => .int (i + j) | .sub => rI0 fun i j => .int (i - j) | .mul => rI IntMulOk fun i j => .int (i * j)
theorem Aop.ip {X : Cx} (a : Aop) : PIp X a.op a.r := by
  cases a with
  | add => exact iop_add
  | sub => exact iop_sub
  | mul => exact (opI fun _ _ _ _ _ _ _ hc q => imul_int q hc : OpR X (inplaceOp .Mult) (rI IntMulOk fun i j => .int (i * j)))
theorem Aop.opD {K : PySem.W.Frag} {E : XK} (a : Aop) : OpD K E a.r a.d := by
  intro c ρ G H μ d e x y Q hK r hx hy h
  subst hK
  cases a with
  | add =>
    cases d with
    | int i =>
      cases e with
      | int j =>
        cases hx
        cases hy
        exact ⟨_, _, rfl, rfl, val_use (d := .int _) (v := .int _) rfl r rfl h⟩
      | _ => exact fin_none h
    | _ => exact fin_none h
  | sub =>
    cases d with
    | int i =>
      cases e with
      | int j =>
        cases hx
        cases hy
        exact ⟨_, _, rfl, rfl, val_use (d := .int _) (v := .int _) rfl r rfl h⟩
      | _ => exact fin_none h
    | _ => exact fin_none h
  | mul =>
    cases d with
    | int i =>
      cases e with
      | int j =>
        cases hx
        cases hy
        have h' : Fin c E ρ G (if mulOk i j = true then ok (D.int (i * j)) μ else none) (fun d ρ' G' _ H' => ∀ v, Rep c.K c.B ρ' G' d v → Q v H') := h
        split at h'
        · rename_i hf
          exact ⟨_, _, rfl, rfl, mulOk_ok hf, val_use (d := .int _) (v := .int _) rfl r rfl h'⟩
        · exact fin_none h'
      | _ => exact fin_none h
    | _ => exact fin_none h
def sAug (a : Aop) (i : Nat) (f : FE) : FS := fun env μ => rb (fVar i env μ) fun x _ => rb (f env μ) fun y μ1 => rb (a.d x y μ1) fun z μ2 => ok (.nx (env.set i (some z))) μ2
def dIxL (d e : D) (μ : Sto) : R D := match d, e with
  | .tup _, _ => none
  | .str _, _ => none
  | d, e => dIx d e μ
def sAugIx (a : Aop) (fo fi f : FE) : FS := fun env μ => rb (fo env μ) fun o μ1 => rb (fi env μ1) fun i μ2 => rb (dIxL o i μ2) fun x μ3 => rb (f env μ3) fun y μ4 => rb (a.d x y μ4) fun z μ5 => rb (dSet o i z μ5) fun _ μ6 => ok (.nx env) μ6
def sIf (c : FE) (a b : FS) : FS := fun env μ => rb (c env μ) fun t μ1 => match t with
  | .bl true => a env μ1
  | .bl false => b env μ1
  | _ => none
def sKill (is : List Nat) : FS := fun env μ => ok (.nx (is.foldl (fun e i => e.set i none) env)) μ
/-! cells that nothing speaks of are dropped behind a loop's turn -/
mutual
def D.bel (n : Nat) : D → Bool
  | .lst _ xs => D.bels n xs
  | .tup xs => D.bels n xs
  | .ref k => decide (k < n)
  | .dK _ kvs => D.belK n kvs
  | .dT _ kvs => D.belT n kvs
  | _ => true
def D.bels (n : Nat) : List D → Bool
  | [] => true
  | x :: r => x.bel n && D.bels n r
def D.belK (n : Nat) : List (Key × D) → Bool
  | [] => true
  | (_, x) :: r => x.bel n && D.belK n r
def D.belT (n : Nat) : List (List Key × D) → Bool
  | [] => true
  | (_, x) :: r => x.bel n && D.belT n r
end
def D.belF (n : Nat) : List (Str × D) → Bool
  | [] => true
  | (_, x) :: r => x.bel n && D.belF n r
def Cell.bel (n : Nat) : Cell → Bool
  | .lst _ xs => D.bels n xs
  | .dK _ kvs => D.belK n kvs
  | .dT _ kvs => D.belT n kvs
  | .lkT kvs => D.belT n kvs
  | .lkK kvs => D.belK n kvs
  | .exn _ _ => true
  | .ins _ fs => D.belF n fs
def envBelow (n : Nat) : Env → Bool
  | [] => true
  | none :: r => envBelow n r
  | some d :: r => d.bel n && envBelow n r
def gc (n : Nat) (env : Env) (μ : Sto) : Sto := if (envBelow n env && (μ.take n).all (Cell.bel n)) = true then μ.take n else μ
def forN (tg : Tg) (body : FS) (s : Sr) (n0 : Nat) : Nat → Nat → Env → Sto → R Fl
  | 0, _, _, _ => none
  | n + 1, i, env, μ => match s.at μ i with
    | none => none
    | some none => ok (.nx env) (s.free μ)
    | some (some d) => match tg.bind d env with
      | none => none
      | some env1 => rb (body env1 μ) fun fl μ1 => match fl with
        | .rt d => ok (.rt d) μ1
        | .nx env2 => forN tg body s n0 n (i + 1) env2 (gc n0 env2 μ1)
def sFor (tg : Tg) (src : FSrc) (body : FS) : FS := fun env μ => rb (src env μ) fun s μ1 => forN tg body s μ1.length (s.fuel μ1) 0 env μ1
def whN (c : FE) (body : FS) (n0 : Nat) : Nat → Env → Sto → R Fl
  | 0, _, _ => none
  | n + 1, env, μ => rb (c env μ) fun t μ1 => match t with
    | .bl false => ok (.nx env) μ1
    | .bl true => rb (body env μ1) fun fl μ2 => match fl with
      | .rt d => ok (.rt d) μ2
      | .nx env2 => whN c body n0 n env2 (gc n0 env2 μ2)
    | _ => none
def FUEL : Nat := 1048576
def sWhile (c : FE) (body : FS) : FS := fun env μ => whN c body μ.length FUEL env μ
section
variable {K : PySem.W.Frag} {B : Hp} {ρ ρ1 : List Addr} {G : Hp} {n : Nat}
theorem pre_below (p : ρ1 <+: ρ) (hl : ρ1.length = n) {k : Nat} (hk : k < n) : ρ1[k]? = ρ[k]? := by
  obtain ⟨t, rfl⟩ := p
  rw [List.getElem?_append_left (by omega)]
mutual
theorem Rep.bel (p : ρ1 <+: ρ) (hl : ρ1.length = n) : ∀ (d : D) (v : V), d.bel n = true → Rep K B ρ G d v → Rep K B ρ1 G d v
  | .non, _, _, h => h
  | .bl _, _, _, h => h
  | .int _, _, _, h => h
  | .str _, _, _, h => h
  | .scr _, _, _, h => h
  | .lst b xs, _, c, ⟨a, vs, e1, e2, h⟩ => ⟨a, vs, e1, e2, Reps.bel p hl xs vs c h⟩
  | .tup xs, _, c, ⟨a, vs, e1, e2, h⟩ => ⟨a, vs, e1, e2, Reps.bel p hl xs vs c h⟩
  | .ref k, _, c, ⟨a, e1, e2⟩ => ⟨a, e1, by rw [pre_below p hl (of_decide_eq_true c)]; exact e2⟩
  | .dK b kvs, _, c, ⟨a, ws, e1, e2, h⟩ => ⟨a, ws, e1, e2, RepK.bel p hl kvs ws c h⟩
  | .dT b kvs, _, c, ⟨a, ws, e1, e2, h⟩ => ⟨a, ws, e1, e2, RepT.bel p hl kvs ws c h⟩
theorem Reps.bel (p : ρ1 <+: ρ) (hl : ρ1.length = n) : ∀ (ds : List D) (vs : List V), D.bels n ds = true → Reps K B ρ G ds vs → Reps K B ρ1 G ds vs
  | [], _, _, h => h
  | d :: ds, _, c, ⟨v, r, e1, h1, h2⟩ => by
    have c' : (d.bel n && D.bels n ds) = true := c
    rw [Bool.and_eq_true] at c'
    exact ⟨v, r, e1, Rep.bel p hl d v c'.1 h1, Reps.bel p hl ds r c'.2 h2⟩
theorem RepK.bel (p : ρ1 <+: ρ) (hl : ρ1.length = n) : ∀ (ds : List (Key × D)) (vs : List (Key × V)), D.belK n ds = true → RepK K B ρ G ds vs → RepK K B ρ1 G ds vs
  | [], _, _, h => h
  | (_, d) :: ds, _, c, ⟨v, r, e1, h1, h2⟩ => by
    have c' : (d.bel n && D.belK n ds) = true := c
    rw [Bool.and_eq_true] at c'
    exact ⟨v, r, e1, Rep.bel p hl d v c'.1 h1, RepK.bel p hl ds r c'.2 h2⟩
theorem RepT.bel (p : ρ1 <+: ρ) (hl : ρ1.length = n) : ∀ (ds : List (List Key × D)) (vs : List (List Key × V)), D.belT n ds = true → RepT K B ρ G ds vs → RepT K B ρ1 G ds vs
  | [], _, _, h => h
  | (_, d) :: ds, _, c, ⟨v, r, e1, h1, h2⟩ => by
    have c' : (d.bel n && D.belT n ds) = true := c
    rw [Bool.and_eq_true] at c'
    exact ⟨v, r, e1, Rep.bel p hl d v c'.1 h1, RepT.bel p hl ds r c'.2 h2⟩
end
theorem RepF.bel (p : ρ1 <+: ρ) (hl : ρ1.length = n) : ∀ (ds : List (Str × D)) (vs : List (Str × V)), D.belF n ds = true → RepF K B ρ G ds vs → RepF K B ρ1 G ds vs
  | [], _, _, h => h
  | (_, d) :: ds, _, c, ⟨v, r, e1, h1, h2⟩ => by
    have c' : (d.bel n && D.belF n ds) = true := c
    rw [Bool.and_eq_true] at c'
    exact ⟨v, r, e1, Rep.bel p hl d v c'.1 h1, RepF.bel p hl ds r c'.2 h2⟩
theorem CellOk.bel {c : Ct} {H : Hp} {a : Addr} (p : ρ1 <+: ρ) (hl : ρ1.length = n) : ∀ {x : Cell}, x.bel n = true → CellOk c ρ G H x a → CellOk c ρ1 G H x a
  | .lst .fz xs, b, ⟨vs, h1, h2⟩ => ⟨vs, h1, h2.bel p hl xs vs b⟩
  | .lst .live xs, b, ⟨hb, h0, vs, h1, h2⟩ => ⟨hb, h0, vs, h1, h2.bel p hl xs vs b⟩
  | .lst .lock xs, b, ⟨hb, h0, vs, h1, h2⟩ => ⟨hb, h0, vs, h1, h2.bel p hl xs vs b⟩
  | .dK .fz xs, b, ⟨vs, h1, h2⟩ => ⟨vs, h1, h2.bel p hl xs vs b⟩
  | .dK .live xs, b, ⟨hb, h0, vs, h1, h2⟩ => ⟨hb, h0, vs, h1, h2.bel p hl xs vs b⟩
  | .dK .lock xs, b, ⟨hb, h0, vs, h1, h2⟩ => ⟨hb, h0, vs, h1, h2.bel p hl xs vs b⟩
  | .dT .fz xs, b, ⟨vs, h1, h2⟩ => ⟨vs, h1, h2.bel p hl xs vs b⟩
  | .dT .live xs, b, ⟨hb, h0, vs, h1, h2⟩ => ⟨hb, h0, vs, h1, h2.bel p hl xs vs b⟩
  | .dT .lock xs, b, ⟨hb, h0, vs, h1, h2⟩ => ⟨hb, h0, vs, h1, h2.bel p hl xs vs b⟩
  | .lkT xs, b, ⟨hb, h0, vs, od, hL, h1, h2⟩ => ⟨hb, h0, vs, od, hL, h1, h2.bel p hl xs vs b⟩
  | .lkK xs, b, ⟨hb, h0, vs, od, hL, h1, h2⟩ => ⟨hb, h0, vs, od, hL, h1, h2.bel p hl xs vs b⟩
  | .exn _ _, _, h => h
  | .ins cls fs, b, ⟨hb, h0, C, dx, ws, q1, q2, q3, h1, h2⟩ => ⟨hb, h0, C, dx, ws, q1, q2, q3, h1, h2.bel p hl fs ws b⟩
theorem envBelow_at : ∀ {env : Env} {i : Nat} {d : D}, envBelow n env = true → env[i]? = some (some d) → d.bel n = true
  | [], _, _, _, h => by simp at h
  | none :: r, 0, _, _, h => by simp at h
  | none :: r, i + 1, d, b, h => envBelow_at (env := r) (i := i) b (by simpa using h)
  | some x :: r, 0, d, b, h => by
    have b' : (x.bel n && envBelow n r) = true := b
    rw [Bool.and_eq_true] at b'
    have : x = d := by simpa using h
    rw [← this]
    exact b'.1
  | some x :: r, i + 1, d, b, h => by
    have b' : (x.bel n && envBelow n r) = true := b
    rw [Bool.and_eq_true] at b'
    exact envBelow_at (env := r) (i := i) b'.2 (by simpa using h)
/-- behind the dropping -/
theorem gc_ok {c : Ct} {H : Hp} {μ : Sto} {env : Env} {σ : L2.St} (p : ρ1 <+: ρ) (hl : ρ1.length = n) (r : Rel c ρ G μ H) (e : EnvOk c ρ G env σ) : ∃ ρ', ρ1 <+: ρ' ∧ Rel c ρ' G (gc n env μ) H ∧ EnvOk c ρ' G env σ := by
  unfold gc
  split
  · rename_i hc
    rw [Bool.and_eq_true] at hc
    refine ⟨ρ1, List.prefix_refl _, ⟨r.gh, r.bh, r.ph, r.tp, r.g0, r.nw, fun a o q => ?_, ?_, ?_, fun m a x e1 e2 => ?_⟩, e.1, fun i d q => ?_⟩
    · obtain ⟨w1, w2, w3⟩ := r.gp a o q
      exact ⟨w1, fun z => w2 (p.subset z), w3⟩
    · have := p.length_le
      have := r.ln
      rw [List.length_take]
      omega
    · exact r.nd.sublist p.sublist
    · have hm : m < n := by
        have := (List.getElem?_eq_some_iff.mp e1).1
        omega
      rw [pre_below p hl hm] at e1
      have hx : x.bel n = true := List.all_eq_true.mp hc.2 x (List.mem_of_getElem? e2)
      rw [List.getElem?_take_of_lt hm] at e2
      exact (r.cl m a x e1 e2).bel p hl hx
    · obtain ⟨v, w1, w2⟩ := e.2 i d q
      exact ⟨v, w1, w2.bel p hl d v (envBelow_at hc.1 q)⟩
  · exact ⟨ρ, p, r, e⟩
end
section
variable {K : PySem.W.Frag} {mg : Str → Option Value} {E : XK}
theorem ts_next : ∀ Dn σ H, TSx K mg E sNext Dn σ H → tNext Dn σ H := by
  rintro Dn σ H ⟨c, env, ρ, G, μ, hK, hm, re, eo, h⟩
  exact Fin.ok re h σ eo
theorem ts_seq {f g : FS} : ∀ Dn σ H, TSx K mg E (sSeq f g) Dn σ H → tSeq (TSx K mg E f) (TSx K mg E g) Dn σ H := by
  rintro Dn σ H ⟨c, env, ρ, G, μ, hK, hm, re, eo, h⟩
  refine ⟨c, env, ρ, G, μ, hK, hm, re, eo, h.bind.imp fun fl ρ' G' μ' H' p e r q => ?_⟩
  cases fl with
  | nx env' => exact fun σ' eo' => ⟨c, env', ρ', G', μ', hK, hm, r, eo', q⟩
  | rt d => exact Fin.ok (E := E) r q
theorem ts_ret {f : FE} : ∀ Dn σ H, TSx K mg E (sRet f) Dn σ H → tRet (TX K mg E f) Dn σ H := by
  rintro Dn σ H ⟨c, env, ρ, G, μ, hK, hm, re, eo, h⟩
  subst hK
  exact tx_use rfl hm re eo h fun d v ρ1 G1 μ1 H1 p1 e1 r1 eo1 hv h1 => Fin.ok r1 h1 v hv
theorem ts_retN : ∀ Dn σ H, TSx K mg E sRetN Dn σ H → tRetN Dn σ H := by
  rintro Dn σ H ⟨c, env, ρ, G, μ, hK, hm, re, eo, h⟩
  exact Fin.ok re h .non rfl
theorem ts_drop {f : FE} : ∀ Dn σ H, TSx K mg E (sDrop f) Dn σ H → tDrop (TX K mg E f) Dn σ H := by
  rintro Dn σ H ⟨c, env, ρ, G, μ, hK, hm, re, eo, h⟩
  exact tx_use hK hm re eo h fun d v ρ1 G1 μ1 H1 p1 e1 r1 eo1 hv h1 => Fin.ok r1 h1 σ eo1
theorem ts_asg {tg : Tg} {f : FE} : ∀ Dn σ H, TSx K mg E (sAsg tg f) Dn σ H → tAsg (TX K mg E f) (tg.g K) Dn σ H := by
  rintro Dn σ H ⟨c, env, ρ, G, μ, hK, hm, re, eo, h⟩
  subst hK
  refine tx_use rfl hm re eo h fun d v ρ1 G1 μ1 H1 p1 e1 r1 eo1 hv h1 => ?_
  split at h1
  · rename_i env' e2
    exact tg_ok r1 eo1 hv e2 fun σ' eo' _ => Fin.ok r1 h1 σ' eo'
  · exact fin_none h1
theorem ts_par {i j : Nat} {f g : FE} : ∀ Dn σ H, TSx K mg E (sPar i j f g) Dn σ H → tPar i j (tCons (TX K mg E f) (tCons (TX K mg E g) tNil)) Dn σ H := by
  rintro Dn σ H ⟨c, env, ρ, G, μ, hK, hm, re, eo, h⟩
  subst hK
  refine tx_use rfl hm re eo h fun d v ρ1 G1 μ1 H1 p1 e1 r1 eo1 hv h1 => ?_
  refine tx_use rfl hm r1 eo1 h1 fun e u ρ2 G2 μ2 H2 p2 e2 r2 eo2 hu h2 => ?_
  exact ⟨v, u, rfl, Fin.ok r2 h2 _ ((eo2.set (hv.mono p2 e2)).set hu)⟩
theorem dset_use {c : Ct} {ρ : List Addr} {G H : Hp} {μ : Sto} {α : Type} {o i d : D} {x y v : V} {k : Sto → R α} {Q : α → List Addr → Hp → Sto → Hp → Prop} {T : Hp → Prop} (hK : c.K = K) (r : Rel c ρ G μ H) (hx : Rep K c.B ρ G o x) (hy : Rep K c.B ρ G i y) (hv : Rep K c.B ρ G d v)
    (h : Fin c E ρ G (rb (dSet o i d μ) fun _ μ1 => k μ1) Q) (step : ∀ μ1 H1, Rel c ρ G μ1 H1 → Fin c E ρ G (k μ1) Q → T H1) : rSetL x y v H T := by
  subst hK
  unfold dSet at h
  split at h
  · rename_i n xs kk e1
    obtain ⟨a, vs, rfl, ha, hb, hg, hH, hr⟩ := live_ok r e1 hx
    cases hy
    split at h
    · rename_i j e2
      rw [hr.length] at e2
      exact ⟨a, vs, kk, j, rfl, rfl, hH, e2, step _ _ (r.write (o := .lst (vs.set j v)) (x := .lst .live (xs.set j d)) ha hg hb (fun _ z => by cases z) ⟨hb, hg, _, upd_same, hr.set j hv⟩) h⟩
    · exact fin_none h
  · exact fin_none h
theorem ts_setIx {fo fi fv : FE} : ∀ Dn σ H, TSx K mg E (sSetIx fo fi fv) Dn σ H → tAsg (TX K mg E fv) (gSub (TX K mg E fo) (TX K mg E fi) rSetL) Dn σ H := by
  rintro Dn σ H ⟨c, env, ρ, G, μ, hK, hm, re, eo, h⟩
  subst hK
  refine tx_use rfl hm re eo h fun d v ρ1 G1 μ1 H1 p1 e1 r1 eo1 hv h1 => ?_
  refine tx_use rfl hm r1 eo1 h1 fun o x ρ2 G2 μ2 H2 p2 e2 r2 eo2 hx h2 => ?_
  refine tx_use rfl hm r2 eo2 h2 fun i y ρ3 G3 μ3 H3 p3 e3 r3 eo3 hy h3 => ?_
  exact dset_use rfl r3 (hx.mono p3 e3) hy (hv.mono (p2.trans p3) (e2.trans e3)) h3 fun μ4 H4 r4 h4 => Fin.ok r4 h4 σ eo3
theorem ts_aug {a : Aop} {i : Nat} {f : FE} : ∀ Dn σ H, TSx K mg E (sAug a i f) Dn σ H → tAug i (TX K mg E f) a.r Dn σ H := by
  rintro Dn σ H ⟨c, env, ρ, G, μ, hK, hm, re, eo, h⟩
  subst hK
  unfold sAug fVar at h
  cases e0 : env[i]? with
  | none =>
    rw [e0] at h
    exact fin_none h
  | some od =>
    cases od with
    | none =>
      rw [e0] at h
      exact fin_none h
    | some x =>
      rw [e0] at h
      simp only [rb_ok] at h
      obtain ⟨v, q1, q2⟩ := eo.2 i x e0
      refine ⟨v, q1, tx_use rfl hm re eo h fun y u ρ1 G1 μ1 H1 p1 e1 r1 eo1 hu h1 => ?_⟩
      refine a.opD c ρ1 G1 H1 μ1 x y v u _ rfl r1 (q2.mono p1 e1) hu (h1.bind.imp fun z ρ2 G2 μ2 H2 p2 e2 r2 h2 w hw => ?_)
      exact Fin.ok r2 h2 _ ((eo1.up p2 e2).set hw)
theorem get_list {X : Cx} : PGet X (rIxL X.K) := by
  intro pins s σ H x y v u Q I rx ry h
  obtain ⟨p, xs, i, z, rfl, rfl, hq, he, q⟩ := h
  cases rx
  obtain ⟨t, rfl⟩ := ry
  obtain ⟨its, r, pl, hz⟩ := I.list hq
  obtain ⟨j, h1, h2, h3, h4, h5⟩ := atI_get he
  obtain ⟨w, ew, hw⟩ := r.get h2
  have hl := r.length
  have hn := line63
  have fin : EP X pins σ Q w s := ⟨z, H, I, hw, q⟩
  by_cases h0 : 0 ≤ i
  · have hj : i.toNat = j := by
      rw [seqIndex_of h0 h5] at h1
      exact Option.some.inj h1
    exact wpAny_getItem_list pl.isList h0 (by omega) (by rw [hj]; simpa using ew) fin
  · have hj : (i + (its.toArray.size : Int)).toNat = j := by
      rw [seqIndex_neg (by omega) h4] at h1
      rw [List.size_toArray, ← hl]
      exact Option.some.inj h1
    exact wpAny_getItem_list_neg pl.isList (by omega) (by rw [List.size_toArray] <;> omega) (by omega) (by rw [hj]; simpa using ew) fin
theorem ixL_ok : OpD K E (rIxL K) dIxL := by
  intro c ρ G H μ d e x y Q hK r hx hy h
  have h' : (∀ xs, d ≠ .tup xs) ∧ (∀ xs, d ≠ .str xs) ∧ Fin c E ρ G (dIx d e μ) (fun d ρ' G' _ H' => ∀ v, Rep K c.B ρ' G' d v → Q v H') := by
    cases d <;> first | exact fin_none h | exact ⟨fun _ z => (nomatch z), fun _ z => (nomatch z), h⟩
  obtain ⟨n1, n2, h'⟩ := h'
  subst hK
  unfold dIx at h'
  split at h'
  · exact absurd rfl (n1 _)
  · exact absurd rfl (n2 _)
  · split at h'
    · rename_i xs e0
      split at h'
      · rename_i w e1
        cases hy
        obtain ⟨a, vs, rfl, h1, h2⟩ := seeL_ok r e0 hx
        obtain ⟨v, q1, q2⟩ := atI_rep h2 e1
        exact ⟨a, vs, _, v, rfl, rfl, h1, q1, val_use rfl r q2 h'⟩
      · exact fin_none h'
    · exact fin_none h'
  · exact fin_none h'
theorem ts_augIx {a : Aop} {fo fi f : FE} : ∀ Dn σ H, TSx K mg E (sAugIx a fo fi f) Dn σ H → tAugS (TX K mg E fo) (TX K mg E fi) (TX K mg E f) (rIxL K) a.r rSetL Dn σ H := by
  rintro Dn σ H ⟨c, env, ρ, G, μ, hK, hm, re, eo, h⟩
  subst hK
  refine tx_use rfl hm re eo h fun o x ρ1 G1 μ1 H1 p1 e1 r1 eo1 hx h1 => ?_
  refine tx_use rfl hm r1 eo1 h1 fun i y ρ2 G2 μ2 H2 p2 e2 r2 eo2 hy h2 => ?_
  refine ixL_ok c ρ2 G2 H2 μ2 o i x y _ rfl r2 (hx.mono p2 e2) hy (h2.bind.imp fun g ρ3 G3 μ3 H3 p3 e3 r3 h3 u hu => ?_)
  refine tx_use rfl hm r3 (eo2.up p3 e3) h3 fun w t ρ4 G4 μ4 H4 p4 e4 r4 eo4 hw h4 => ?_
  refine a.opD c ρ4 G4 H4 μ4 g w u t _ rfl r4 (hu.mono p4 e4) hw (h4.bind.imp fun z ρ5 G5 μ5 H5 p5 e5 r5 h5 b hb => ?_)
  exact dset_use rfl r5 (hx.mono (((p2.trans p3).trans p4).trans p5) (((e2.trans e3).trans e4).trans e5)) (hy.mono ((p3.trans p4).trans p5) ((e3.trans e4).trans e5)) hb h5 fun μ6 H6 r6 h6 => Fin.ok r6 h6 σ (eo4.up p5 e5)
theorem ts_if {t : FE} {f g : FS} : ∀ Dn σ H, TSx K mg E (sIf t f g) Dn σ H → tIfS (TXb K mg E t) (TSx K mg E f) (TSx K mg E g) Dn σ H := by
  rintro Dn σ H ⟨c, env, ρ, G, μ, hK, hm, re, eo, h⟩
  refine txb_use' hK hm re eo h (fun d μ hd => by cases d <;> first | rfl | exact absurd rfl (hd _)) fun b ρ1 G1 μ1 H1 p1 e1 r1 eo1 h1 => ?_
  cases b with
  | true => exact ⟨c, env, ρ1, G1, μ1, hK, hm, r1, eo1, h1⟩
  | false => exact ⟨c, env, ρ1, G1, μ1, hK, hm, r1, eo1, h1⟩
theorem ts_kill {is : List Nat} {g : FS} : ∀ Dn σ H, TSx K mg E (sSeq (sKill is) g) Dn σ H → TSx K mg E g Dn σ H := by
  rintro Dn σ H ⟨c, env, ρ, G, μ, hK, hm, re, eo, h⟩
  have : ∀ (is : List Nat) (env : Env), EnvOk c ρ G env σ → EnvOk c ρ G (is.foldl (fun e i => e.set i none) env) σ := fun is => by
    induction is with
    | nil => exact fun env q => q
    | cons i r ih => exact fun env q => ih _ q.kill
  exact ⟨c, _, ρ, G, μ, hK, hm, re, this is env eo, h⟩
theorem ts_for {tg : Tg} {src : FSrc} {body : FS} : ∀ Dn σ H, TSx K mg E (sFor tg src body) Dn σ H → tFor (TXi K mg E src) (tg.g K) (TSx K mg E body) Dn σ H := by
  rintro Dn σ H ⟨c, env, ρ, G, μ, hK, hm, re, eo, h⟩
  subst hK
  refine ⟨c, env, ρ, G, μ, rfl, hm, re, eo, h.bind.imp fun s ρ1 G1 μ1 H1 p1 e1 r1 h1 J hJ => ?_⟩
  refine ⟨fun i m σ' H' => ∃ env' ρ' G' μ', ρ1 <+: ρ' ∧ Same G1 G' ∧ Rel c ρ' G' μ' H' ∧ EnvOk c ρ' G' env' σ' ∧ Fin c E ρ1 G1 (forN tg body s μ1.length m i env' μ') (flQ c Dn), ⟨s.fuel μ1, env, ρ1, G1, μ1, List.prefix_refl _, Same.refl _, r1, eo.up p1 e1, h1⟩, ?_⟩
  rintro i m σ' H' ⟨env', ρ', G', μ', p2, e2, r2, eo2, h2⟩
  cases m with
  | zero => exact fin_none h2
  | succ m =>
    unfold forN at h2
    have hj := hJ c ρ' G' μ' H' rfl rfl rfl p2 e2 r2 i
    cases ea : s.at μ' i with
    | none =>
      simp only [ea] at h2
      exact fin_none h2
    | some o =>
      have hj' := hj o ea
      cases o with
      | none =>
        simp only [ea] at h2
        exact .inl ⟨hj', Fin.ok_at p2 e2 (r2.free s) h2 σ' eo2⟩
      | some d =>
        simp only [ea] at h2
        refine .inr ⟨hj'.1, _, fun σ3 H3 q => ⟨m, Nat.lt_succ_self m, q⟩, fun x H3 hy => ?_⟩
        obtain ⟨G3, e3, r3, hx⟩ := hj'.2 x H3 hy
        cases eb : tg.bind d env' with
        | none =>
          rw [eb] at h2
          exact fin_none h2
        | some env1 =>
          simp only [eb] at h2
          refine tg_ok r3 (eo2.up (List.prefix_refl _) e3) hx eb fun σ2 eo3 _ => ?_
          refine ⟨c, env1, ρ', G3, μ', rfl, hm, r3, eo3, ?_⟩
          cases er : body env1 μ' with
          | none =>
            rw [er] at h2
            exact fin_none h2
          | some e =>
            cases e with
            | error pr =>
              rw [er] at h2
              exact fun ρ4 G4 H4 cls da p4 e4 r4 q => h2 ρ4 G4 H4 cls da (p2.trans p4) ((e2.trans e3).trans e4) r4 q
            | ok pr =>
              obtain ⟨fl, μ4⟩ := pr
              rw [er] at h2
              intro ρ4 G4 H4 p4 e4 r4
              cases fl with
              | rt d' => exact fun v hv => h2 ρ4 G4 H4 (p2.trans p4) ((e2.trans e3).trans e4) r4 v hv
              | nx env2 =>
                intro σ4 eo4
                obtain ⟨ρ5, p5, r5, eo5⟩ := gc_ok (p2.trans p4) r1.ln r4 eo4
                exact ⟨env2, ρ5, G4, _, p5, (e2.trans e3).trans e4, r5, eo5, h2⟩
theorem ts_while {t : FE} {body : FS} : ∀ Dn σ H, TSx K mg E (sWhile t body) Dn σ H → tWhile (TXb K mg E t) (TSx K mg E body) Dn σ H := by
  rintro Dn σ H ⟨c, env, ρ, G, μ, hK, hm, re, eo, h⟩
  subst hK
  refine ⟨fun m σ' H' => ∃ env' ρ' G' μ', ρ <+: ρ' ∧ Same G G' ∧ Rel c ρ' G' μ' H' ∧ EnvOk c ρ' G' env' σ' ∧ Fin c E ρ G (whN t body μ.length m env' μ') (flQ c Dn), ⟨FUEL, env, ρ, G, μ, List.prefix_refl _, Same.refl _, re, eo, h⟩, ?_⟩
  rintro m σ' H' ⟨env', ρ', G', μ', p2, e2, r2, eo2, h2⟩
  cases m with
  | zero => exact fin_none h2
  | succ m =>
    unfold whN at h2
    refine ⟨c, env', ρ', G', μ', rfl, hm, r2, eo2, ?_⟩
    cases er : t env' μ' with
    | none =>
      rw [er] at h2
      exact fin_none h2
    | some e =>
      cases e with
      | error pr =>
        rw [er] at h2
        exact fun ρ4 G4 H4 cls da p4 e4 r4 q => h2 ρ4 G4 H4 cls da (p2.trans p4) (e2.trans e4) r4 q
      | ok pr =>
        obtain ⟨d, μ3⟩ := pr
        rw [er] at h2
        intro ρ3 G3 H3 p3 e3 r3
        have eo3 := eo2.up p3 e3
        have h3 : Fin c E ρ G (match d with
          | .bl false => ok (.nx env') μ3
          | .bl true => rb (body env' μ3) fun fl μ2 => match fl with
            | .rt d => ok (.rt d) μ2
            | .nx env2 => whN t body μ.length m env2 (gc μ.length env2 μ2)
          | _ => none) (flQ c Dn) := h2
        cases d with
        | bl b =>
          refine ⟨b, rfl, ?_⟩
          cases b with
          | false => exact Fin.ok_at (p2.trans p3) (e2.trans e3) r3 h3 σ' eo3
          | true =>
            refine ⟨_, fun σ4 H4 q => ⟨m, Nat.lt_succ_self m, q⟩, ?_⟩
            refine ⟨c, env', ρ3, G3, μ3, rfl, hm, r3, eo3, ?_⟩
            cases eb : body env' μ3 with
            | none =>
              simp only [eb] at h3
              exact fin_none h3
            | some e =>
              cases e with
              | error pr =>
                simp only [eb] at h3
                exact fun ρ4 G4 H4 cls da p4 e4 r4 q => h3 ρ4 G4 H4 cls da ((p2.trans p3).trans p4) ((e2.trans e3).trans e4) r4 q
              | ok pr =>
                obtain ⟨fl, μ4⟩ := pr
                simp only [eb] at h3
                intro ρ4 G4 H4 p4 e4 r4
                cases fl with
                | rt d' => exact fun v hv => h3 ρ4 G4 H4 ((p2.trans p3).trans p4) ((e2.trans e3).trans e4) r4 v hv
                | nx env2 =>
                  intro σ4 eo4
                  obtain ⟨ρ5, p5, r5, eo5⟩ := gc_ok ((p2.trans p3).trans p4) re.ln r4 eo4
                  exact ⟨env2, ρ5, G4, _, p5, (e2.trans e3).trans e4, r5, eo5, h3⟩
        | _ => exact fin_none h3
end
end Lv
set_option Elab.async false
set_option linter.all false
set_option maxRecDepth 100000
set_option autoImplicit false
/-! calls of the text's own defs -/
namespace Lv
open PySem PySem.Spec PyProof.Rows L2
/-! ### a def of the text, by a function on data -/
structure Fn where
  name : Str
  ps : List Str
  bo : List Bool
  dn : Nat
  run : List D → Option (Except Exn (D × Sto))
  cs : List Str
  runS : List D → Sto → R D
/-- what a call leaves -/
structure Aft (G H G' H' : Hp) : Prop where
  hh : Same H H'
  gg : Same G G'
  gh : Same G' H'
  tp : ∀ a vs, H' a = some (.tup vs) → G' a = some (.tup vs)
  nw : ∀ a o, G' a = some o → G a = some o ∨ H a = none
def Fn.spL (K : PySem.W.Frag) (mg : Str → Option Value) (F : Fn) : Sp := fun vs H Q E => ∃ G ds, Same G H ∧ (∀ a vs, H a = some (.tup vs) → G a = some (.tup vs)) ∧ Reps K H [] G ds vs ∧ match F.run ds with
  | none => False
  | some (.ok (d, μ)) => ∀ v ρ G' H', Same G G' → Rel ⟨K, mg, H, G, fun _ => none, fun _ => none⟩ ρ G' μ H' → Rep K H ρ G' d v → Q v H'
  | some (.error x) => ∀ G' H' cls da, Aft G H G' H' → ErrOk mg x cls da G' → E cls da H'
def Fn.spS (K : PySem.W.Frag) (mg : Str → Option Value) (F : Fn) : Sp := fun vs H Q E => ∃ c ρ G μ ds, c.K = K ∧ c.mg = mg ∧ Rel c ρ G μ H ∧ Reps K c.B ρ G ds vs ∧ Fin c E ρ G (F.runS ds μ) fun d ρ' G' _ H' => ∀ v, Rep K c.B ρ' G' d v → Q v H'
/-- a call by lent arguments, or one in the caller's own store -/
def Fn.sp (K : PySem.W.Frag) (mg : Str → Option Value) (F : Fn) : Sp := fun vs H Q E => vs.length = F.ps.length ∧ (F.spL K mg vs H Q E ∨ F.spS K mg vs H Q E)
def lendA (μ : Sto) : List Bool → List D → Option (List D)
  | [], [] => some []
  | true :: m, d :: r => match lend μ 8 d, lendA μ m r with
    | some x, some s => some (x :: s)
    | _, _ => none
  | false :: m, d :: r => if d.clean = true then (lendA μ m r).map (d :: ·) else none
  | _, _ => none
/-! what a call gives, in cells of its own -/
mutual
def D.sh (n : Nat) : D → D
  | .lst b xs => .lst b (D.shs n xs)
  | .tup xs => .tup (D.shs n xs)
  | .ref k => .ref (n + k)
  | .dK b kvs => .dK b (D.shK n kvs)
  | .dT b kvs => .dT b (D.shT n kvs)
  | d => d
def D.shs (n : Nat) : List D → List D
  | [] => []
  | x :: r => x.sh n :: D.shs n r
def D.shK (n : Nat) : List (Key × D) → List (Key × D)
  | [] => []
  | (k, x) :: r => (k, x.sh n) :: D.shK n r
def D.shT (n : Nat) : List (List Key × D) → List (List Key × D)
  | [] => []
  | (k, x) :: r => (k, x.sh n) :: D.shT n r
end
mutual
def D.ret : D → Bool
  | .lst b xs => !b && D.rets xs
  | .tup xs => D.rets xs
  | .scr _ => false
  | .dK b kvs => !b && D.retK kvs
  | .dT b kvs => !b && D.retT kvs
  | _ => true
def D.rets : List D → Bool
  | [] => true
  | x :: r => x.ret && D.rets r
def D.retK : List (Key × D) → Bool
  | [] => true
  | (_, x) :: r => x.ret && D.retK r
def D.retT : List (List Key × D) → Bool
  | [] => true
  | (_, x) :: r => x.ret && D.retT r
end
def Cell.sh (n : Nat) : Cell → Cell
  | .lst m xs => .lst m (D.shs n xs)
  | .dK m kvs => .dK m (D.shK n kvs)
  | .dT m kvs => .dT m (D.shT n kvs)
  | .lkT kvs => .lkT kvs
  | .lkK kvs => .lkK kvs
  | .exn c fs => .exn c fs
  | .ins c fs => .ins c fs
def Cell.ret : Cell → Bool
  | .lst .live xs => D.rets xs
  | .dK .live kvs => D.retK kvs
  | .dT .live kvs => D.retT kvs
  | _ => false
def give (fz : Bool) (d : D) (μ' : Sto) (μ : Sto) : R D := match fz with
  | true => match frz 6 d μ' with
    | some (e, _) => if e.clean = true then ok e μ else none
    | none => none
  | false => if (d.ret && μ'.all Cell.ret) = true then ok (d.sh μ.length) (μ ++ μ'.map (Cell.sh μ.length)) else none
def dCall (F : Fn) (dn : Nat) (fz : Bool) (ds : List D) (μ : Sto) : R D := match lendA μ F.bo (ds ++ List.replicate dn .non) with
  | none => none
  | some es => if es.length = F.ps.length then match F.run es with
    | none => none
    | some (.ok (d, μ')) => give fz d μ' μ
    | some (.error x) => some (.error (x, μ))
    else none
section
variable {K : PySem.W.Frag} {B B' : Hp} {ρ ρ' : List Addr} {G : Hp}
mutual
theorem Rep.sh : ∀ (d : D) (v : V), d.ret = true → Rep K B ρ' G d v → Rep K B' (ρ ++ ρ') G (d.sh ρ.length) v
  | .non, _, _, h => h
  | .bl _, _, _, h => h
  | .int _, _, _, h => h
  | .str _, _, _, h => h
  | .scr _, _, c, _ => nomatch c
  | .ref k, _, c, ⟨a, e1, e2⟩ => ⟨a, e1, by rw [List.getElem?_append_right (by omega), Nat.add_sub_cancel_left]; exact e2⟩
  | .lst b xs, _, c, ⟨a, vs, e1, e2, h⟩ => by
    obtain ⟨c1, c2⟩ := Bool.and_eq_true_iff.mp (show (!b && D.rets xs) = true from c)
    cases b with
    | true => cases c1
    | false => exact ⟨a, vs, e1, e2, Reps.sh xs vs c2 h⟩
  | .tup xs, _, c, ⟨a, vs, e1, e2, h⟩ => ⟨a, vs, e1, e2, Reps.sh xs vs c h⟩
  | .dK b kvs, _, c, ⟨a, ws, e1, e2, h⟩ => by
    obtain ⟨c1, c2⟩ := Bool.and_eq_true_iff.mp (show (!b && D.retK kvs) = true from c)
    cases b with
    | true => cases c1
    | false => exact ⟨a, ws, e1, e2, RepK.sh kvs ws c2 h⟩
  | .dT b kvs, _, c, ⟨a, ws, e1, e2, h⟩ => by
    obtain ⟨c1, c2⟩ := Bool.and_eq_true_iff.mp (show (!b && D.retT kvs) = true from c)
    cases b with
    | true => cases c1
    | false => exact ⟨a, ws, e1, e2, RepT.sh kvs ws c2 h⟩
theorem Reps.sh : ∀ (ds : List D) (vs : List V), D.rets ds = true → Reps K B ρ' G ds vs → Reps K B' (ρ ++ ρ') G (D.shs ρ.length ds) vs
  | [], _, _, h => h
  | d :: ds, _, c, ⟨v, r, e1, h1, h2⟩ => by
    obtain ⟨c1, c2⟩ := Bool.and_eq_true_iff.mp (show (d.ret && D.rets ds) = true from c)
    exact ⟨v, r, e1, Rep.sh d v c1 h1, Reps.sh ds r c2 h2⟩
theorem RepK.sh : ∀ (ds : List (Key × D)) (vs : List (Key × V)), D.retK ds = true → RepK K B ρ' G ds vs → RepK K B' (ρ ++ ρ') G (D.shK ρ.length ds) vs
  | [], _, _, h => h
  | (_, d) :: ds, _, c, ⟨v, r, e1, h1, h2⟩ => by
    obtain ⟨c1, c2⟩ := Bool.and_eq_true_iff.mp (show (d.ret && D.retK ds) = true from c)
    exact ⟨v, r, e1, Rep.sh d v c1 h1, RepK.sh ds r c2 h2⟩
theorem RepT.sh : ∀ (ds : List (List Key × D)) (vs : List (List Key × V)), D.retT ds = true → RepT K B ρ' G ds vs → RepT K B' (ρ ++ ρ') G (D.shT ρ.length ds) vs
  | [], _, _, h => h
  | (_, d) :: ds, _, c, ⟨v, r, e1, h1, h2⟩ => by
    obtain ⟨c1, c2⟩ := Bool.and_eq_true_iff.mp (show (d.ret && D.retT ds) = true from c)
    exact ⟨v, r, e1, Rep.sh d v c1 h1, RepT.sh ds r c2 h2⟩
end
end
section
variable {c : Ct} {ρ : List Addr} {G H : Hp} {μ : Sto}
theorem lendA_ok (r : Rel c ρ G μ H) : ∀ (m : List Bool) (ds : List D) (vs : List V) (es : List D), lendA μ m ds = some es → Reps c.K c.B ρ G ds vs → Reps c.K H [] G es vs
  | [], [], _, _, h, q => by
    cases h
    exact q
  | true :: m, d :: ds, _, es, h, ⟨v, s, e1, h1, h2⟩ => by
    unfold lendA at h
    cases e : lend μ 8 d with
    | none =>
      rw [e] at h
      cases h
    | some x =>
      cases e' : lendA μ m ds with
      | none =>
        rw [e, e'] at h
        cases h
      | some t =>
        rw [e, e'] at h
        cases h
        exact ⟨v, s, e1, lend_ok r 8 d v x e h1, lendA_ok r m ds s t e' h2⟩
  | false :: m, d :: ds, _, es, h, ⟨v, s, e1, h1, h2⟩ => by
    unfold lendA at h
    split at h
    · rename_i hc
      obtain ⟨t, e', e2⟩ := map_some h
      subst e2
      exact ⟨v, s, e1, h1.clean d v hc, lendA_ok r m ds s t e' h2⟩
    · cases h
  | [], _ :: _, _, _, h, _ => by cases h
  | true :: _, [], _, _, h, _ => by cases h
  | false :: _, [], _, _, h, _ => by cases h
/-- behind a call -/
theorem Rel.after {G' H' : Hp} (r : Rel c ρ G μ H) (a : Aft G H G' H') : Rel c ρ G' μ H' := by
  have keep : ∀ {p : Addr} {o : HO}, H p = some o → G p = none → G' p = none := fun {p o} e n => by
    cases q : G' p with
    | none => rfl
    | some u =>
      rcases a.nw p u q with z | z
      · rw [n] at z
        cases z
      · rw [e] at z
        cases z
  refine ⟨a.gh, r.bh.trans a.hh, r.ph.trans a.hh, a.tp, r.g0.trans a.gg, fun p o e => ?_, fun p o e => ?_, r.ln, r.nd, fun n p x e1 e2 => ?_⟩
  · rcases a.nw p o e with z | z
    · exact r.nw p o z
    · exact .inr (r.none_b z)
  · obtain ⟨q1, q2, q3⟩ := r.gp p o e
    exact ⟨keep (r.ph _ _ e) q1, q2, q3⟩
  · exact (r.cl n p x e1 e2).mono (List.prefix_refl _) a.gg fun g0 _ o q => ⟨keep q g0, a.hh _ _ q⟩
theorem nons {K : PySem.W.Frag} {B : Hp} {ρ : List Addr} {G : Hp} : ∀ n : Nat, Reps K B ρ G (List.replicate n .non) (List.replicate n .non)
  | 0 => rfl
  | n + 1 => .cons rfl (nons n)
end
theorem live_new {c : Ct} {ρ : List Addr} {G H : Hp} {x : Cell} {a : Addr} (hr : x.ret = true) (h : CellOk c ρ G H x a) : c.B a = none ∧ G a = none := by
  cases x with
  | lst m xs => cases m <;> first | exact ⟨h.1, h.2.1⟩ | cases hr
  | dK m xs => cases m <;> first | exact ⟨h.1, h.2.1⟩ | cases hr
  | dT m xs => cases m <;> first | exact ⟨h.1, h.2.1⟩ | cases hr
  | lkT _ => cases hr
  | lkK _ => cases hr
  | exn _ _ => cases hr
  | ins _ _ => cases hr
theorem cell_in {c : Ct} {ρ : List Addr} {G H : Hp} {x : Cell} {a : Addr} (gh : Same G H) (h : CellOk c ρ G H x a) : ∃ o, H a = some o := by
  cases x with
  | lst m xs =>
    cases m with
    | fz =>
      obtain ⟨vs, q, _⟩ := h
      exact ⟨_, gh _ _ q⟩
    | live =>
      obtain ⟨_, _, vs, q, _⟩ := h
      exact ⟨_, q⟩
    | lock =>
      obtain ⟨_, _, vs, q, _⟩ := h
      exact ⟨_, q⟩
  | dK m xs =>
    cases m with
    | fz =>
      obtain ⟨vs, q, _⟩ := h
      exact ⟨_, gh _ _ q⟩
    | live =>
      obtain ⟨_, _, vs, q, _⟩ := h
      exact ⟨_, q⟩
    | lock =>
      obtain ⟨_, _, vs, q, _⟩ := h
      exact ⟨_, q⟩
  | dT m xs =>
    cases m with
    | fz =>
      obtain ⟨vs, q, _⟩ := h
      exact ⟨_, gh _ _ q⟩
    | live =>
      obtain ⟨_, _, vs, q, _⟩ := h
      exact ⟨_, q⟩
    | lock =>
      obtain ⟨_, _, vs, q, _⟩ := h
      exact ⟨_, q⟩
  | lkT _ =>
    obtain ⟨_, _, _, _, _, q, _⟩ := h
    exact ⟨_, q⟩
  | lkK _ =>
    obtain ⟨_, _, _, _, _, q, _⟩ := h
    exact ⟨_, q⟩
  | exn _ _ =>
    obtain ⟨_, _, _, _, _, _, q, _⟩ := h
    exact ⟨_, gh _ _ q⟩
  | ins _ _ =>
    obtain ⟨_, _, C, dx, ws, _, _, _, q, _⟩ := h
    exact ⟨_, q⟩
theorem cell_sh {c c' : Ct} {ρ ρ' : List Addr} {G H : Hp} {x : Cell} {a : Addr} (hK : c'.K = c.K) (hb : c.B a = none) (hr : x.ret = true) (h : CellOk c' ρ' G H x a) : CellOk c (ρ ++ ρ') G H (x.sh ρ.length) a := by
  cases x with
  | lst m xs =>
    cases m with
    | live =>
      obtain ⟨_, q1, vs, q2, q3⟩ := h
      rw [hK] at q3
      exact ⟨hb, q1, vs, q2, Reps.sh xs vs hr q3⟩
    | _ => cases hr
  | dK m xs =>
    cases m with
    | live =>
      obtain ⟨_, q1, vs, q2, q3⟩ := h
      rw [hK] at q3
      exact ⟨hb, q1, vs, q2, RepK.sh xs vs hr q3⟩
    | _ => cases hr
  | dT m xs =>
    cases m with
    | live =>
      obtain ⟨_, q1, vs, q2, q3⟩ := h
      rw [hK] at q3
      exact ⟨hb, q1, vs, q2, RepT.sh xs vs hr q3⟩
    | _ => cases hr
  | lkT _ => cases hr
  | lkK _ => cases hr
  | exn _ _ => cases hr
  | ins _ _ => cases hr
theorem aft_of {K : PySem.W.Frag} {mg : Str → Option Value} {G H G' H' : Hp} {ρ : List Addr} {μ : Sto} {P L : Hp} (s : Same G G') (r : Rel ⟨K, mg, H, G, P, L⟩ ρ G' μ H') : Aft G H G' H' := ⟨r.bh, s, r.gh, r.tp, r.nw⟩
/-- the caller's cells, then the callee's -/
theorem Rel.join {c c' : Ct} {ρ ρ' : List Addr} {G G' H H' : Hp} {μ μ' : Sto} (r : Rel c ρ G μ H) (hK : c'.K = c.K) (hB : c'.B = H) (a : Aft G H G' H') (r' : Rel c' ρ' G' μ' H') (hr : μ'.all Cell.ret = true) : Rel c (ρ ++ ρ') G' (μ ++ μ'.map (Cell.sh μ.length)) H' := by
  have r2 := r.after a
  have new : ∀ b ∈ ρ', H b = none ∧ G' b = none := fun b hb => by
    obtain ⟨n, hn⟩ := List.mem_iff_getElem?.mp hb
    have hl : n < μ'.length := by
      have := (List.getElem?_eq_some_iff.mp hn).1
      have := r'.ln
      omega
    have h0 := r'.cl n b _ hn (List.getElem?_eq_getElem hl)
    have h1 := live_new (List.all_eq_true.mp hr _ (List.getElem_mem hl)) h0
    rw [hB] at h1
    exact h1
  refine ⟨r2.gh, r2.bh, r2.ph, r2.tp, r2.g0, r2.nw, fun p o e => ?_, by rw [List.length_append, List.length_append, List.length_map, r.ln, r'.ln], ?_, fun n p x e1 e2 => ?_⟩
  · obtain ⟨q1, q2, q3⟩ := r2.gp p o e
    refine ⟨q1, fun z => ?_, q3⟩
    rcases List.mem_append.mp z with z | z
    · exact q2 z
    · have := r.ph p o e
      rw [(new p z).1] at this
      cases this
  · refine List.nodup_append.mpr ⟨r.nd, r'.nd, fun p hp q hq e => ?_⟩
    subst e
    obtain ⟨n, hn⟩ := List.mem_iff_getElem?.mp hp
    have hl : n < μ.length := by
      have := (List.getElem?_eq_some_iff.mp hn).1
      have := r.ln
      omega
    obtain ⟨o, ho⟩ := cell_in r.gh (r.cl n p _ hn (List.getElem?_eq_getElem hl))
    rw [(new p hq).1] at ho
    cases ho
  · by_cases hn : n < ρ.length
    · rw [List.getElem?_append_left hn] at e1
      rw [List.getElem?_append_left (by rw [← r.ln]; exact hn)] at e2
      exact (r2.cl n p x e1 e2).mono (List.prefix_append _ _) (Same.refl _) fun g0 _ o q => ⟨g0, q⟩
    · rw [List.getElem?_append_right (by omega)] at e1
      rw [List.getElem?_append_right (by rw [← r.ln]; omega), List.getElem?_map] at e2
      rw [← r.ln] at e2
      cases e3 : μ'[n - ρ.length]? with
      | none =>
        rw [e3] at e2
        cases e2
      | some y =>
        rw [e3] at e2
        cases e2
        have hb := new p (List.mem_of_getElem? e1)
        exact cell_sh hK (r.none_b hb.1) (List.all_eq_true.mp hr _ (List.mem_of_getElem? e3)) (r'.cl _ p y e1 e3)
theorem give_ok {c : Ct} {E : XK} {ρ ρ' : List Addr} {G G' H H' : Hp} {μ μ' : Sto} {fz : Bool} {d : D} {v : V} {mg : Str → Option Value} {α : Type} {Q : D → List Addr → Hp → Sto → Hp → Prop} {P : V → Hp → Prop} (r : Rel c ρ G μ H) (s : Same G G') (r' : Rel ⟨c.K, mg, H, G, fun _ => none, fun _ => none⟩ ρ' G' μ' H') (hv : Rep c.K H ρ' G' d v)
    (h : Fin c E ρ G (give fz d μ' μ) Q) (hQ : ∀ e ρ1 G1 μ1 H1, Rep c.K c.B ρ1 G1 e v → Q e ρ1 G1 μ1 H1 → P v H1) : P v H' := by
  cases fz with
  | true =>
    unfold give at h
    simp only at h
    cases e1 : frz 6 d μ' with
    | none =>
      rw [e1] at h
      exact fin_none h
    | some p =>
      obtain ⟨e, μ2⟩ := p
      rw [e1] at h
      simp only at h
      by_cases hc : e.clean = true
      · rw [if_pos hc] at h
        obtain ⟨G2, s2, r2, q2⟩ := frz_ok 6 d μ' e μ2 G' e1 r'
        have a := aft_of (s.trans s2) r2
        exact hQ e ρ G2 μ H' (Rep.clean e v hc (q2 v hv)) (Fin.ok_at (List.prefix_refl _) a.gg (r.after a) h)
      · rw [if_neg hc] at h
        exact fin_none h
  | false =>
    unfold give at h
    simp only at h
    by_cases hc : (d.ret && μ'.all Cell.ret) = true
    · rw [if_pos hc] at h
      rw [Bool.and_eq_true] at hc
      have a := aft_of s r'
      have j := r.join (c' := ⟨c.K, mg, H, G, fun _ => none, fun _ => none⟩) rfl rfl a r' hc.2
      refine hQ (d.sh μ.length) (ρ ++ ρ') G' _ H' ?_ (Fin.ok_at (List.prefix_append _ _) a.gg j h)
      rw [← r.ln]
      exact Rep.sh d v hc.1 hv
    · rw [if_neg hc] at h
      exact fin_none h
theorem tx_call {K : PySem.W.Frag} {mg : Str → Option Value} {E : XK} {F : Fn} {dn : Nat} {fz : Bool} {fs : FEs} : ∀ σ H Q, TX K mg E (fun env μ => rb (fs env μ) (dCall F dn fz)) σ H Q → tCall (F.sp K mg) (List.replicate dn .non) E (TXs K mg E fs) σ H Q := by
  rintro σ H Q ⟨c, env, ρ, G, μ, hK, hm, re, eo, h⟩
  subst hK hm
  refine txs_use rfl rfl re eo h fun ds vs ρ1 G1 μ1 H1 p1 e1 r1 eo1 hv h1 => ?_
  unfold dCall at h1
  split at h1
  · exact fin_none h1
  · rename_i es e2
    split at h1
    · rename_i hl
      have hr := lendA_ok r1 _ _ _ _ e2 (hv.append (nons dn))
      refine ⟨by rw [← hr.length]; exact hl, .inl ⟨G1, es, r1.gh, r1.tp, hr, ?_⟩⟩
      split at h1
      · exact fin_none h1
      · exact fun v ρ2 G2 H2 s r2 q => give_ok (α := Unit) r1 s r2 q h1 fun e ρ3 G3 μ3 H3 q3 q4 => q4 v q3
      · exact fun G' H' cls da a q => h1 ρ1 G' H' cls da (List.prefix_refl _) a.gg (r1.after a) q
    · exact fin_none h1
/-- a call in the caller's own store -/
def dCallS (F : Fn) (dn : Nat) (ds : List D) (μ : Sto) : R D := if ds.length + dn = F.ps.length then F.runS (ds ++ List.replicate dn .non) μ else none
theorem callS_use {K : PySem.W.Frag} {mg : Str → Option Value} {E : XK} {F : Fn} {dn : Nat} {c : Ct} {ρ : List Addr} {G H : Hp} {μ : Sto} {ds : List D} {vs : List V} {Q : VK} (hK : c.K = K) (hm : c.mg = mg) (r : Rel c ρ G μ H) (hv : Reps K c.B ρ G ds vs)
    (h : Fin c E ρ G (dCallS F dn ds μ) fun d ρ' G' _ H' => ∀ v, Rep K c.B ρ' G' d v → Q v H') : F.sp K mg (vs ++ List.replicate dn .non) H Q E := by
  unfold dCallS at h
  split at h
  · rename_i hl
    exact ⟨by rw [List.length_append, List.length_replicate, ← hv.length]; exact hl, .inr ⟨c, ρ, G, μ, _, hK, hm, r, hv.append (nons dn), h⟩⟩
  · exact fin_none h
theorem tx_callS {K : PySem.W.Frag} {mg : Str → Option Value} {E : XK} {F : Fn} {dn : Nat} {fs : FEs} : ∀ σ H Q, TX K mg E (fun env μ => rb (fs env μ) (dCallS F dn)) σ H Q → tCall (F.sp K mg) (List.replicate dn .non) E (TXs K mg E fs) σ H Q := by
  rintro σ H Q ⟨c, env, ρ, G, μ, hK, hm, re, eo, h⟩
  exact txs_use hK hm re eo h fun ds vs ρ1 G1 μ1 H1 p1 e1 r1 eo1 hv h1 => callS_use hK hm r1 hv h1
end Lv
set_option Elab.async false
set_option linter.all false
set_option maxRecDepth 100000
set_option autoImplicit false
/-! the other way about; two names at once -/
namespace Lv
open PySem PySem.Spec PyProof.Rows L2
def dRev (lv : Bool) (d : D) (μ : Sto) : R D := match seeL μ d with
  | some xs => alloc lv xs.reverse μ
  | none => none
theorem reps_rev {K : PySem.W.Frag} {B : Hp} {ρ : List Addr} {G : Hp} : ∀ {ds : List D} {vs : List V}, Reps K B ρ G ds vs → Reps K B ρ G ds.reverse vs.reverse
  | [], _, h => by
    cases h
    exact rfl
  | d :: ds, _, ⟨v, r, e1, h1, h2⟩ => by
    subst e1
    rw [List.reverse_cons, List.reverse_cons]
    exact (reps_rev h2).append ⟨v, [], rfl, h1, rfl⟩
theorem tx_rev {K : PySem.W.Frag} {mg : Str → Option Value} {E : XK} {f : FE} (lv : Bool) : ∀ σ H Q, TX K mg E (fun env μ => rb (f env μ) (dRev lv)) σ H Q → tRevL K (TX K mg E f) σ H Q := by
  rintro σ H Q ⟨c, env, ρ, G, μ, hK, hm, re, eo, h⟩
  subst hK
  refine tx_use rfl hm re eo h fun d v ρ1 G1 μ1 H1 p1 e1 r1 eo1 hv h1 => ?_
  unfold dRev at h1
  cases e : seeL μ1 d with
  | none =>
    rw [e] at h1
    exact fin_none h1
  | some xs =>
    rw [e] at h1
    obtain ⟨a, vs, rfl, q1, q2⟩ := seeL_ok r1 e hv
    exact ⟨a, vs, rfl, q1, fun p hp => alloc_use rfl r1 (reps_rev q2) hp h1⟩
/-! x is True, x is False -/
def rIsB (neg : Bool) : R2 := fun x y H Q => ∃ c d, x = .bl c ∧ y = .bl d ∧ Q (.bl (if neg then c != d else c == d)) H
theorem op_isB {X : Cx} : OpR X (compareOp .Is) (rIsB false) := by
  intro pins s σ H x y v u Q I rx ry h
  obtain ⟨c, d, rfl, rfl, q⟩ := h
  cases rx
  cases ry
  exact is_bool ⟨.bl _, H, I, rfl, q⟩
theorem op_notB {X : Cx} : OpR X (compareOp .IsNot) (rIsB true) := by
  intro pins s σ H x y v u Q I rx ry h
  obtain ⟨c, d, rfl, rfl, q⟩ := h
  cases rx
  cases ry
  exact isnot_bool ⟨.bl _, H, I, rfl, q⟩
def dIsB (neg : Bool) (d e : D) (μ : Sto) : R D := match d, e with
  | .bl c, .bl b => ok (.bl (if neg then c != b else c == b)) μ
  | _, _ => none
theorem isB_ok {K : PySem.W.Frag} {E : XK} (neg : Bool) : OpD K E (rIsB neg) (dIsB neg) := by
  intro c ρ G H μ d e x y Q hK r hx hy h
  subst hK
  unfold dIsB at h
  split at h
  · cases hx
    cases hy
    exact ⟨_, _, rfl, rfl, val_use (d := .bl _) (v := .bl _) rfl r rfl h⟩
  · exact fin_none h
/-! list(range(..)) -/
def dLrg (lv : Bool) (ds : List D) (μ : Sto) : R D := match ds with
  | [.int j] => if j.toNat ≤ LIM ∧ -(2 ^ 61) ≤ j then alloc lv (rangeD 0 j.toNat) μ else none
  | [.int i, .int j] => if (-(2 ^ 61) ≤ i ∧ i ≤ 2 ^ 61) ∧ (-(2 ^ 61) ≤ j ∧ j ≤ 2 ^ 61) ∧ (j - i).toNat ≤ LIM then alloc lv (rangeD i (j - i).toNat) μ else none
  | _ => none
theorem reps_two {K : PySem.W.Frag} {B : Hp} {ρ : List Addr} {G : Hp} {α : Type} {f : α → D} {g : α → V} (h : ∀ x, Rep K B ρ G (f x) (g x)) : ∀ xs : List α, Reps K B ρ G (xs.map f) (xs.map g)
  | [] => rfl
  | x :: r => ⟨g x, r.map g, rfl, h x, reps_two h r⟩
theorem rb_one {β : Type} (f : FE) (env : Env) (μ : Sto) (g : List D → Sto → R β) : rb (fCons f fNil env μ) g = rb (f env μ) fun d μ1 => g [d] μ1 := by
  show rb (rb (f env μ) fun d μ1 => rb (fNil env μ1) fun ds μ2 => ok (d :: ds) μ2) g = _
  rw [rb_assoc]
  rfl
theorem rb_two {β : Type} (f f' : FE) (env : Env) (μ : Sto) (g : List D → Sto → R β) : rb (fCons f (fCons f' fNil) env μ) g = rb (f env μ) fun d μ1 => rb (f' env μ1) fun e μ2 => g [d, e] μ2 := by
  show rb (rb (f env μ) fun d μ1 => rb (fCons f' fNil env μ1) fun ds μ2 => ok (d :: ds) μ2) g = _
  rw [rb_assoc]
  congr 1
  funext d μ1
  rw [rb_assoc, rb_one]
  rfl
theorem tx_lrg1 {K : PySem.W.Frag} {mg : Str → Option Value} {E : XK} {f : FE} (lv : Bool) : ∀ σ H Q, TX K mg E (fun env μ => rb (fCons f fNil env μ) (dLrg lv)) σ H Q → tLstRg (tRg1 (TX K mg E f)) σ H Q := by
  rintro σ H Q ⟨c, env, ρ, G, μ, hK, hm, re, eo, h⟩
  subst hK
  simp only [rb_one] at h
  refine tx_use rfl hm re eo h fun d v ρ1 G1 μ1 H1 p1 e1 r1 eo1 hv h1 => ?_
  unfold dLrg at h1
  split at h1
  · rename_i ds j e0
    cases e0
    cases hv
    split at h1
    · rename_i hj
      have hL : LIM = 1000000 := rfl
      refine ⟨j, rfl, ⟨by omega, by omega, by omega, by omega, by rw [Int.sub_zero]; omega⟩, fun q hq => ?_⟩
      rw [show rgV 0 j = (List.range j.toNat).map fun i => V.int (0 + (i : Nat)) by unfold rgV; rw [Int.sub_zero]]
      exact alloc_use rfl r1 (reps_two (f := fun i : Nat => D.int (0 + (i : Nat))) (g := fun i : Nat => V.int (0 + (i : Nat))) (fun i => rfl) _) hq h1
    · exact fin_none h1
  · rename_i e0
    cases e0
  · exact fin_none h1
theorem tx_lrg2 {K : PySem.W.Frag} {mg : Str → Option Value} {E : XK} {f g : FE} (lv : Bool) : ∀ σ H Q, TX K mg E (fun env μ => rb (fCons f (fCons g fNil) env μ) (dLrg lv)) σ H Q → tLstRg (tRg2 (TX K mg E f) (TX K mg E g)) σ H Q := by
  rintro σ H Q ⟨c, env, ρ, G, μ, hK, hm, re, eo, h⟩
  subst hK
  simp only [rb_two] at h
  refine tx_use rfl hm re eo h fun d v ρ1 G1 μ1 H1 p1 e1 r1 eo1 hv h1 => ?_
  refine tx_use rfl hm r1 eo1 h1 fun e u ρ2 G2 μ2 H2 p2 e2 r2 eo2 hu h2 => ?_
  unfold dLrg at h2
  split at h2
  · rename_i e0
    cases e0
  · rename_i ds i j e0
    cases e0
    cases hv
    cases hu
    split at h2
    · rename_i hj
      have hL : LIM = 1000000 := rfl
      refine ⟨i, j, rfl, rfl, ⟨by omega, by omega, by omega, by omega, by omega⟩, fun q hq => ?_⟩
      exact alloc_use rfl r2 (reps_two (f := fun k : Nat => D.int (i + (k : Nat))) (g := fun k : Nat => V.int (i + (k : Nat))) (fun k => rfl) _) hq h2
    · exact fin_none h2
  · exact fin_none h2
end Lv
set_option Elab.async false
set_option linter.all false
set_option maxRecDepth 100000
set_option autoImplicit false
/-! enumerate of a tuple -/
namespace Lv
open PySem PySem.Spec PyProof.Rows L2
abbrev tiO (t : Addr) : Obj := { cls := .type "tuple_iterator", data := .fields #[.ref t, .int 0 0] }
abbrev enO (it : Addr) : Obj := { cls := .type "enumerate", data := .fields #[.none, .bool false, .ref it, rawInt 0, .none, .none] }
theorem enT_new (t : Addr) (us : Array Value) :
    Meets (Builtin.«enumerate.__new__» ⟨[.type "enumerate", .ref t], []⟩) (fun _ R s => s.heap.IsTuple t us ∧
      R (.ok (.ret (.ref (s.heap.push (tiO t)).objs.size))) { s with heap := (s.heap.push (tiO t)).push (enO s.heap.objs.size) }) :=
  .of_wp fun prog w A R s h => by
    obtain ⟨hp, g, d, tk, os⟩ := s
    obtain ⟨h1, h⟩ := h
    have hsub := sub_enumerate
    have hT : Heap.IsTuple (Shared.heap ⟨hp, g, d, tk, os⟩) t us := h1
    have q1 : ∀ {A' : Around} {E : Value → Shared → Prop} {Q : Value → Shared → Prop}, Q (.ref hp.objs.size) ⟨(hp.push (tiO t)), g, d, tk, os⟩ → wpAny (model prog w) A' (pyIter (.ref t)) Q E ⟨hp, g, d, tk, os⟩ :=
      fun q => (begins_tuple t us).iter prog w _ _ ⟨hp, g, d, tk, os⟩ _ h1 q
    wp_walk using q1
    refine wpAny_stack_any fun st => wpAny_pure ?_
    split
    · rename_i c _ _ _ _ _
      cases (c == Value.type "enumerate") <;> (wp_walk using q1; exact ⟨_, rfl, h⟩)
    · wp_walk using q1
      exact ⟨_, rfl, h⟩
section
variable {prog : Program} {w : World} {A : Around} {E : Value → Shared → Prop} {s : Shared}
theorem enT_call {t : Addr} {us : Array Value} {Q : Value → Shared → Prop} (ht : s.heap.IsTuple t us)
    (k : ∀ g, IsEnum g (s.heap.objs.size + 1) s.heap.objs.size 0 .none → g.IsTupleIter s.heap.objs.size t 0 →
      (∀ b o, s.heap.get? b = some o → g.get? b = some o) → Q (.ref (s.heap.objs.size + 1)) { s with heap := g }) :
    wpAny (model prog w) A (call (.type "enumerate") [.ref t]) Q E s := by
  refine callType_new F.called_enumerate (by decide) (F.typeCall_enumerate_1 _) (F.newCall_enumerate_1 _) (fun ob => F.args_object_init_2 ob _) F.entry_enumerate_new (enT_new t us) ⟨ht, ?_⟩
  have z : (s.heap.push (tiO t)).objs.size = s.heap.objs.size + 1 := Heap.size_push ..
  show _ ∧ _
  rw [z]
  have g1 : IsEnum ((s.heap.push (tiO t)).push (enO s.heap.objs.size)) (s.heap.objs.size + 1) s.heap.objs.size 0 .none := by
    have q := Heap.get?_push_size (s.heap.push (tiO t)) (o := enO s.heap.objs.size) rfl
    rw [z] at q
    exact q
  exact ⟨⟨_, g1, rfl⟩, k _ g1 ⟨_, Heap.get?_push_of_some _ (Heap.get?_push_size _ rfl), rfl, rfl⟩ fun b o x => Heap.get?_push_of_some _ (Heap.get?_push_of_some _ x)⟩
theorem enT_end {e it t : Addr} {i : Nat} {us : Array Value} {old : Value} {Q : Option Value → Shared → Prop} (hh : A.in1.handled = none)
    (he : IsEnum s.heap e it i old) (hi : s.heap.IsTupleIter it t i) (ht : s.heap.IsTuple t us) (hx : us[i]? = none)
    (k : ∀ g, Heap.ExtBut it s.heap g → Q none { s with heap := g }) : wpAny (model prog w) A (pyNext (.ref e)) Q E s := by
  have ty : s.TypeIs (.ref e) "enumerate" := ⟨_, he, rfl⟩
  unfold pyNext
  refine wpAny_bind (wpAny_attempt (wpAny_callSpecial?_slot (name := Str.ofString "__next__") ty F.slot_enumerate_next (wpAny_call_entry F.slot_enumerate_next ty F.entry_enumerate_next ?_ (F.args_enumerate_next_1 _))))
  show wpAny _ _ (field (.ref e) 2 >>= _) _ _ _
  refine wpAny_bind (wpAny_field he rfl (x := .ref it) rfl (wpAny_bind (wpAny_nextOf_tuple_end hh hi ht hx fun g x eb hc => ?_)))
  obtain ⟨o, ho, hc⟩ := hc
  exact wpAny_bind (wpAny_isInstance (T := "StopIteration") (b := true) ⟨o, ho, hc⟩ isSubtype_stop (wpAny_pure (k _ eb)))
end
/-- the items of the tuple at a, each in a new pair -/
def ItN (K : PySem.W.Frag) (a : Addr) : It :=
  ⟨fun i H => ∃ (us : List V) (u : V), SqT K H a us ∧ us[i]? = some u, fun i H v G => ∃ T u, v = .ref T ∧ H T = none ∧ G = upd H T (.tup [.int (i : Nat), u]) ∧ ∀ us, SqT K H a us → us[i]? = some u, fun i H => ∃ us : List V, SqT K H a us ∧ us.length ≤ i⟩
theorem isT_of {h : Heap} {a : Addr} {us : Array Value} (x : IsTup h a us) : h.IsTuple a us := by
  obtain ⟨o, h1, h2, n, h3⟩ := x
  exact ⟨o, h1, h2, n, h3⟩
theorem turn_enT {P : Program} {w : World} {K : PySem.W.Frag} {tgs : List Expr} {kk : Nat} {tp : Pos} (a e it : Addr) (hae : a ≠ it) :
    Turn P w K (.Tuple tgs kk tp) (ItN K a) [e, it] e (fun i h => (∃ old, IsEnum h e it ((i : Nat) : Int) old) ∧ h.IsTupleIter it a i ∧ e ≠ it ∧ a ≠ e) where
  mem := List.mem_cons_self
  obj := fun i h st b hb => by
    obtain ⟨⟨old, he⟩, ⟨o, ho, hc, hd⟩, _⟩ := st
    rcases List.mem_cons.mp hb with z | z
    · rw [z]
      exact ⟨_, he, fun v q => nomatch q⟩
    · rw [List.mem_singleton.mp z]
      exact ⟨o, ho, fun v q => by rw [hd] at q; cases q⟩
  keep := fun i h h' st k => by
    obtain ⟨⟨old, he⟩, ⟨o, ho, hc⟩, hne⟩ := st
    exact ⟨⟨old, k e List.mem_cons_self _ he⟩, ⟨o, k it (List.mem_cons_of_mem _ List.mem_cons_self) o ho, hc⟩, hne⟩
  item := by
    intro X hP hw hK hc i pins s σ H E I hf st hg
    subst hP hw hK
    obtain ⟨⟨old, he⟩, hit, hne, hea⟩ := st
    obtain ⟨us, u0, hq, hx⟩ := hg
    obtain ⟨its, rv, p, hz⟩ := I.tuple hq
    obtain ⟨u, hu, ru⟩ := rv.get hx
    have hp : s.heap.IsTuple a its.toArray := isT_of p
    have hel : e < s.heap.objs.size := Heap.lt_size he
    have hil : it < s.heap.objs.size := by
      obtain ⟨_, q, _⟩ := hit
      exact Heap.lt_size q
    have hu' : its.toArray[i]? = some u := by simpa using hu
    have hin : i < its.toArray.size := by
      by_cases q : i < its.toArray.size
      · exact q
      · rw [Array.getElem?_eq_none (by omega)] at hu'
        cases hu'
    have hh : X.A.in1.handled = none := I.ok.hd hc
    refine wpAny_pyNext_enum_itemD (Draws.tuple hh it a hae its.toArray) he ⟨hit, hp⟩ hin hne (fun z => ?_) fun x h' tk hP ho hS hT hsz hk => ?_
    · rcases List.mem_cons.mp z with z | z
      · exact hne z
      · exact hea (List.mem_singleton.mp z).symm
    have hxu : x = u := Option.some.inj (hP.symm.trans hu')
    subst hxu
    refine ⟨_, rfl, wpAny_letOwnedTupleGo_enum (s := { s with heap := h', toks := tk + 1 }) ho fun g hg' sb => ?_⟩
    have hT2 : g.get? s.heap.objs.size = some { cls := .type "tuple", data := .seq #[.int i tk, x] } := (sb.2 _ (Nat.ne_of_gt hel)).trans hT
    have hn0 : H s.heap.objs.size = none := I.hok.fresh (Nat.le_refl _)
    have new : ObjOk X.prog X.w (upd H s.heap.objs.size (.tup [.int (i : Nat), u0])) g s.heap.objs.size (.tup [.int (i : Nat), u0]) :=
      ⟨by show 2 ≤ sizeLine; decide, [.int i tk, x], .cons ⟨_, rfl⟩ (.cons ru .nil), ⟨_, hT2, rfl, _, rfl⟩⟩
    have I1 : Inv X pins σ (upd H s.heap.objs.size (.tup [.int (i : Nat), u0])) { s with heap := g, toks := tk + 1 } :=
      I.turnedNew (ch := [e, it]) (fun b ob hb q => (sb.2 b (fun z => hb (by simp [z]))).trans (hk b ob (fun z => hb (by simp [z])) (fun z => hb (by simp [z])) q)) hf (Nat.le_refl _) new
    refine ⟨.ref s.heap.objs.size, _, I1, rfl, ⟨_, u0, rfl, hn0, rfl, fun ys hy => by rw [I.tuple_inj hy hq]; exact hx⟩, ⟨⟨x, ?_⟩, ?_, hne, hea⟩, fun b hb => ?_⟩
    · have e1 : ((i + 1 : Nat) : Int) = (i : Int) + 1 := by omega
      rw [e1]
      exact hg'
    · obtain ⟨o, h1, h2⟩ := hS.1
      exact ⟨o, (sb.2 it (Ne.symm hne)).trans h1, h2⟩
    · have hb' : b < s.heap.objs.size := by
        rcases List.mem_cons.mp hb with z | z
        · rw [z]; exact hel
        · rw [List.mem_singleton.mp z]; exact hil
      rw [upd_ne (Nat.ne_of_lt hb')]
      exact (hf b hb).1
  done := by
    intro X hP hw hK hc i pins s σ H E I hf st hg
    subst hP hw hK
    obtain ⟨⟨old, he⟩, hit, hne, hea⟩ := st
    obtain ⟨us, hq, hx⟩ := hg
    obtain ⟨its, rv, p, hz⟩ := I.tuple hq
    have hp : s.heap.IsTuple a its.toArray := isT_of p
    obtain ⟨f0, f1, f2, f3, f4, f5⟩ := hf it (by simp)
    have hl := rv.length
    have hh : X.A.in1.handled = none := I.ok.hd hc
    refine enT_end hh he hit hp (by simp; omega) fun g eb => ⟨rfl, I.turned (t' := s.toks) (fun b o hb q => eb b o hb q) f0 f1 f3 f4 f5⟩
  self := fun A i s Q E st h => by
    obtain ⟨⟨old, he⟩, _⟩ := st
    exact wpAny_pyIter_enum he h
def iEnN (K : PySem.W.Frag) (ta : TA) : TI := fun σ H R => ta σ H fun vs G => ∃ a us, vs = [.ref a] ∧ SqT K G a us ∧ R (ItN K a) G
theorem pi_enN {X : Cx} {e : Expr} {ta : TA} {p pos tp : Pos} {tgs : List Expr} {kk : Nat} (hg : Gl X "enumerate") (hm : X.mg "enumerate" = none) (ha : PA X [e] ta) (hs : starEach [e] X.env = [(false, eval e X.env)]) :
    PI X (.Tuple tgs kk tp) (.Call (.Name "enumerate" p) [e] [] pos) (iEnN X.K ta) := by
  refine ⟨fun pins s σ H R I h => Call_ (ld_blt I hg hm boot_enumerate (PyProof.Rows.callWith_type1 (thn (ha.run pos pins s σ H _ I h) fun vs s1 ⟨us, H1, I1, r1, q1⟩ => ?_) hs rfl))⟩
  obtain ⟨a, ws, ex, hq, q⟩ := q1
  subst ex
  cases r1 with
  | cons r rr =>
    cases rr
    cases r
    obtain ⟨its, rv, tp', hz⟩ := I1.tuple hq
    have ht : s1.heap.IsTuple a its.toArray := isT_of tp'
    have hlt : a < s1.heap.objs.size := by
      obtain ⟨o, ho, _⟩ := ht
      exact Heap.lt_size ho
    refine enT_call ht fun g he hit hk => wpAny_pyIter_enum he ?_
    have I2 : Inv X pins σ H1 { s1 with heap := g } := I1.kept (t' := s1.toks) hk
    refine ⟨s1.heap.objs.size + 1, [s1.heap.objs.size + 1, s1.heap.objs.size], _, _, H1, rfl, I2, turn_enT a (s1.heap.objs.size + 1) s1.heap.objs.size (Nat.ne_of_lt hlt), ⟨⟨.none, he⟩, hit, Nat.succ_ne_self _, Nat.ne_of_lt (Nat.lt_succ_of_lt hlt)⟩, fun b hb => ?_, q⟩
    have hle : s1.heap.objs.size ≤ b := by
      rcases List.mem_cons.mp hb with z | z
      · rw [z]
        exact Nat.le_add_right _ _
      · rw [List.mem_singleton.mp z]
        exact Nat.le_refl _
    exact I1.fpOk hle (I1.hok.fresh hle)
end Lv
set_option Elab.async false
set_option linter.all false
set_option maxRecDepth 100000
set_option autoImplicit false
/-! enumerate of a tuple, how many unlike ones, sorted pairs -/
namespace Lv
open PySem PySem.Spec PyProof.Rows L2
section
variable {K : PySem.W.Frag} {mg : Str → Option Value} {E : XK}
def dEnumT (ds : List D) (μ : Sto) : R Sr := match ds with
  | [.tup xs] => ok (.fix (enumD 0 xs)) μ
  | _ => none
theorem txi_enumT {f : FEs} : ∀ σ H R, TXi K mg E (fun env μ => rb (f env μ) dEnumT) σ H R → iEnN K (TXs K mg E f) σ H R := by
  rintro σ H R ⟨c, env, ρ, G, μ, hK, hm, re, eo, h⟩
  subst hK
  refine txs_use rfl hm re eo h fun ds vs ρ1 G1 μ1 H1 p1 e1 r1 eo1 hv h1 => ?_
  unfold dEnumT at h1
  split at h1
  · rename_i xs
    obtain ⟨v, rfl, hv1⟩ := reps1 hv
    obtain ⟨a, us, rfl, q0, q1⟩ := hv1
    have q2 : ∀ (c' : Ct) (ρ : List Addr) (G : Hp) (μ : Sto) (H : Hp), Same G1 G → Rel c' ρ G μ H → SqT c.K H a us := fun c' ρ G μ H e r => .inl (.inl (r.gh _ _ (e _ _ q0)))
    refine ⟨a, us, rfl, q2 c ρ1 G1 μ1 H1 (Same.refl _) r1, Fin.ok r1 h1 _ ?_⟩
    intro c' ρ G μ H hK hB hL p e r i o ho
    have q := q2 c' ρ G μ H e r
    have q3 := q1.mono p e
    cases ho
    rw [enumD_get]
    cases ei : xs[i]? with
    | none =>
      refine ⟨us, q, ?_⟩
      have := List.getElem?_eq_none_iff.mp ei
      rw [q1.length] at this
      exact this
    | some d =>
      obtain ⟨v, w1, w2⟩ := q3.get ei
      refine ⟨⟨us, v, q, w1⟩, fun x H' y => ?_⟩
      obtain ⟨T, z, rfl, hT, rfl, y⟩ := y
      have := y us q
      rw [w1] at this
      cases this
      refine ⟨_, same_upd (r.none_g hT), r.frozen hT, rep_updT (r.none_g hT) (xs := [.int ((0 + i : Nat) : Int), d]) ⟨_, _, rfl, ?_, _, _, rfl, w2, rfl⟩⟩
      rw [Nat.zero_add]
      rfl
  · exact fin_none h1
/-! ### len(set(xs)) -/
def lsetN (ns : List Int) : Nat := (PyProof.Rows.firstMet (fun i => ns.getD i 0) ns.length).length
def dLSet (d : D) (μ : Sto) : R D := match (seeL μ d).bind intsD with
  | some ns => if ns.length ≤ 1000 then ok (.int (lsetN ns : Nat)) μ else none
  | none => none
def tLSet (K : PySem.W.Frag) (ta : TE) : TE := fun σ H Q => ta σ H fun x G => ∃ (l : Addr) (ns : List Int), x = .ref l ∧ SqL K G l (ns.map V.int) ∧ ns.length ≤ 1000 ∧ Q (.int (lsetN ns : Nat)) G
theorem pe_lset {X : Cx} {a : Expr} {ta : TE} {p p2 q pos : Pos} (hc : X.calm = true) (hg : Gl X "len") (hm : X.mg "len" = none) (hg2 : Gl X "set") (hm2 : X.mg "set" = none) (ha : PE X a ta)
    (na : starEach [a] X.env = (false, eval a X.env) :: starEach [] X.env) : PE X (.Call (.Name "len" p) [.Call (.Name "set" p2) [a] [] q] [] pos) (tLSet X.K ta) := by
  refine ⟨fun pins s σ H Q I h => Call_ (ld_blt I hg hm boot_len (PyProof.Rows.callWith_builtin1 (PyProof.Rows.args_cons ?_ rfl) rfl rfl))⟩
  refine Call_ (ld_blt I hg2 hm2 boot_set (PyProof.Rows.callWith_type1 (PyProof.Rows.args_cons (thn (ha.run pins s σ H _ I h) fun v s1 ⟨x, H1, I1, r1, q1⟩ => PyProof.Rows.args_nil ?_) na) na rfl))
  obtain ⟨l, ns, rfl, hq, hl, q1⟩ := q1
  cases r1
  obtain ⟨its, r, pl, hz⟩ := I1.list hq
  have hn : its.toArray.size = ns.length := by rw [List.size_toArray, ← r.length, List.length_map]
  have hle := PyProof.Rows.firstMet_length_le (fun i => ns.getD i 0) ns.length
  refine call_set_list (I1.ok.hd hc) pl.isList (ns := ns) (by simpa using r.ints) (by rw [hn]; unfold scanBound; omega) fun g tk hS hk => PyProof.Rows.args_nil ?_
  rw [hn] at hS
  obtain ⟨o, es, ep, t, ho, hex, hd, _, _, _, hf, hu⟩ := hS
  have I2 : Inv X pins σ H1 { s1 with heap := g, toks := tk } := I1.kept fun b o e => hk b o (Heap.lt_size e) e
  exact call_len_set ho hex hd hf (by rw [hu] <;> omega) ⟨.int (lsetN ns : Nat), H1, I2.tok _, ⟨_, by rw [hu] <;> rfl⟩, q1⟩
theorem tx_lset {f : FE} : ∀ σ H Q, TX K mg E (fun env μ => rb (f env μ) dLSet) σ H Q → tLSet K (TX K mg E f) σ H Q := by
  rintro σ H Q ⟨c, env, ρ, G, μ, hK, hm, re, eo, h⟩
  subst hK
  refine tx_use rfl hm re eo h fun d v ρ1 G1 μ1 H1 p1 e1 r1 eo1 hv h1 => ?_
  unfold dLSet at h1
  split at h1
  · rename_i ns e0
    split at h1
    · rename_i hl
      obtain ⟨a, us, rfl, q1, q2⟩ := seeL_ok r1 (bind_ints e0) hv
      rw [rep_ints q2] at q1
      exact ⟨a, ns, rfl, q1, hl, Fin.ok r1 h1 _ rfl⟩
    · exact fin_none h1
  · exact fin_none h1
/-! ### sorted(xs), pairs -/
def pairsD : List D → Option (List (Int × Int))
  | [] => some []
  | .tup [.int i, .int j] :: r => (pairsD r).map ((i, j) :: ·)
  | _ :: _ => none
def pairD (p : Int × Int) : D := .tup [.int p.1, .int p.2]
theorem pairs_eq : ∀ {ds : List D} {ps : List (Int × Int)}, pairsD ds = some ps → ds = ps.map pairD
  | [], _, h => by
    cases h
    rfl
  | d :: r, ps, h => by
    unfold pairsD at h
    split at h
    · rename_i e
      cases e
    · rename_i i j r' e
      cases e
      cases q : pairsD r with
      | none =>
        rw [q] at h
        cases h
      | some qs =>
        rw [q] at h
        cases h
        rw [pairs_eq q]
        rfl
    · cases h
def putP (p : Int × Int) : List (Int × Int) → List (Int × Int)
  | [] => [p]
  | q :: r => if SrtO.lexB q p = true then q :: putP p r else p :: q :: r
def psort : List (Int × Int) → List (Int × Int)
  | [] => []
  | p :: r => putP p (psort r)
theorem putP_perm (p : Int × Int) : ∀ r : List (Int × Int), (putP p r).Perm (p :: r)
  | [] => .refl _
  | q :: r => by
    unfold putP
    split
    · exact ((putP_perm p r).cons q).trans (.swap _ _ _)
    · exact .refl _
theorem psort_perm : ∀ r : List (Int × Int), (psort r).Perm r
  | [] => .refl _
  | p :: r => (putP_perm p _).trans ((psort_perm r).cons p)
def ltPP (p q : Int × Int) : Prop := SrtO.lexB q p = false
theorem ltPP_trans {p q r : Int × Int} (h : ltPP p q) (h' : ltPP q r) : ltPP p r := by
  unfold ltPP at *
  rw [SrtO.lexB_no] at *
  omega
theorem putP_sorted (p : Int × Int) : ∀ {r : List (Int × Int)}, r.Pairwise ltPP → (putP p r).Pairwise ltPP
  | [], _ => by simp [putP]
  | q :: r, h => by
    obtain ⟨h1, h2⟩ := List.pairwise_cons.mp h
    unfold putP
    split
    · rename_i e
      refine List.pairwise_cons.mpr ⟨fun x hx => ?_, putP_sorted p h2⟩
      rcases List.mem_cons.mp ((putP_perm p r).mem_iff.mp hx) with z | z
      · subst z
        unfold ltPP
        rw [SrtO.lexB_no]
        rw [SrtO.lexB_iff] at e
        omega
      · exact h1 x z
    · rename_i e
      have e' : ltPP p q := by
        unfold ltPP
        simpa using e
      refine List.pairwise_cons.mpr ⟨fun x hx => ?_, h⟩
      rcases List.mem_cons.mp hx with z | z
      · subst z
        exact e'
      · exact ltPP_trans e' (h1 x z)
theorem psort_sorted : ∀ r : List (Int × Int), (psort r).Pairwise ltPP
  | [] => .nil
  | p :: r => putP_sorted p (psort_sorted r)
theorem ltPP_anti {p q : Int × Int} (h : ltPP p q) (h' : ltPP q p) : p = q := by
  unfold ltPP at *
  rw [SrtO.lexB_no] at *
  ext <;> omega
theorem sortedP_eq : ∀ {l m : List (Int × Int)}, l.Pairwise ltPP → m.Pairwise ltPP → l.Perm m → l = m
  | [], m, _, _, h => (List.Perm.eq_nil h.symm).symm
  | x :: l, [], _, _, h => absurd h.length_eq (by simp)
  | x :: l, y :: m, hl, hm, h => by
    obtain ⟨l1, l2⟩ := List.pairwise_cons.mp hl
    obtain ⟨m1, m2⟩ := List.pairwise_cons.mp hm
    have rf : ∀ p : Int × Int, ltPP p p := fun p => by
      unfold ltPP
      rw [SrtO.lexB_no]
      omega
    have a : ltPP x y := by
      rcases List.mem_cons.mp (h.mem_iff.mpr (List.mem_cons_self (a := y) (l := m))) with z | z
      · rw [z]
        exact rf x
      · exact l1 y z
    have b : ltPP y x := by
      rcases List.mem_cons.mp (h.mem_iff.mp (List.mem_cons_self (a := x) (l := l))) with z | z
      · rw [z]
        exact rf y
      · exact m1 x z
    have e := ltPP_anti a b
    subst e
    rw [sortedP_eq l2 m2 h.cons_inv]
def dSortP (lv : Bool) (ds : List D) (μ : Sto) : R D := match ds with
  | [d] => match (see μ d).bind pairsD with
    | some ps => alloc lv ((psort ps).map pairD) μ
    | none => none
  | _ => none
theorem reps_pairs {B : Hp} {ρ : List Addr} {G : Hp} : ∀ {ps : List (Int × Int)} {vs : List V}, Reps K B ρ G (ps.map pairD) vs → Paired (fun p v => ∃ t, v = V.ref t ∧ G t = some (.tup [.int p.1, .int p.2])) ps vs
  | [], _, h => by
    cases h
    exact .nil
  | p :: ps, _, ⟨v, r, e1, h1, h2⟩ => by
    subst e1
    refine .cons ?_ (reps_pairs h2)
    obtain ⟨t, us, rfl, q1, q2⟩ := h1
    obtain ⟨u, w, rfl, hu, hw⟩ := reps2 q2
    cases hu
    cases hw
    exact ⟨t, rfl, q1⟩
def kP (H : Hp) (x : V) : Int × Int := match x with
  | .ref t => match H t with
    | some (.tup [.int i, .int j]) => (i, j)
    | _ => (0, 0)
  | _ => (0, 0)
theorem paired_k {G H : Hp} (e : Same G H) : ∀ {ps : List (Int × Int)} {vs : List V}, Paired (fun p v => ∃ t, v = V.ref t ∧ G t = some (.tup [.int p.1, .int p.2])) ps vs → vs.map (kP H) = ps ∧ ∀ v ∈ vs, ∃ t, v = V.ref t ∧ G t = some (.tup [.int (kP H v).1, .int (kP H v).2])
  | _, _, .nil => ⟨rfl, fun v hv => by cases hv⟩
  | _, _, .cons (a := p) (b := v) h t => by
    obtain ⟨a1, a2⟩ := paired_k e t
    obtain ⟨x, rfl, hx⟩ := h
    have ek : kP H (.ref x) = p := by
      unfold kP
      simp only [e _ _ hx]
    refine ⟨by rw [List.map_cons, a1, ek], fun v hv => ?_⟩
    rcases List.mem_cons.mp hv with z | z
    · subst z
      exact ⟨x, rfl, by rw [ek]; exact hx⟩
    · exact a2 v z
theorem reps_k {B : Hp} {ρ : List Addr} {G H : Hp} : ∀ {vs : List V}, (∀ v ∈ vs, ∃ t, v = V.ref t ∧ G t = some (.tup [.int (kP H v).1, .int (kP H v).2])) → Reps K B ρ G ((vs.map (kP H)).map pairD) vs
  | [], _ => rfl
  | v :: r, h => by
    obtain ⟨t, e, q⟩ := h v List.mem_cons_self
    refine .cons ?_ (reps_k fun u hu => h u (List.mem_cons_of_mem _ hu))
    exact ⟨t, _, e, q, .cons rfl (.cons rfl rfl)⟩
theorem sortP_ok (lv : Bool) : CbD K E (rSortedPO K) (dSortP lv) := by
  intro c ρ G H μ ds vs Q hK r hs h
  subst hK
  unfold dSortP at h
  split at h
  · rename_i d
    obtain ⟨v, rfl, hv⟩ := reps1 hs
    split at h
    · rename_i ps e0
      cases e1 : see μ d with
      | none =>
        rw [e1] at e0
        cases e0
      | some xs =>
        rw [e1] at e0
        have ex := pairs_eq (show pairsD xs = some ps from e0)
        subst ex
        obtain ⟨a, us, rfl, h1, h2⟩ := see_ok r e1 hv
        obtain ⟨p1, p2⟩ := paired_k r.gh (reps_pairs h2)
        refine ⟨a, us, kP H, rfl, .inl (.inl h1), fun x hx => ?_, fun ys p hsr hst hp => ?_⟩
        · obtain ⟨t, e, q⟩ := p2 x hx
          exact ⟨t, e, r.gh _ _ q⟩
        · have hm : ∀ y ∈ ys, y ∈ us := fun y hy => hst.perm.mem_iff.mp hy
          have e2 : ys.map (kP H) = psort ps := by
            refine sortedP_eq (List.pairwise_map.mpr (hsr.imp fun {x y} q => q)) (psort_sorted ps) ?_
            refine ((hst.perm.map (kP H)).trans ?_).trans (psort_perm ps).symm
            rw [p1]
          have hr : Reps c.K c.B ρ G ((psort ps).map pairD) ys := by
            rw [← e2]
            exact reps_k fun y hy => p2 y (hm y hy)
          exact alloc_use rfl r hr hp h
    · exact fin_none h
  · exact fin_none h
end
end Lv
set_option Elab.async false
set_option linter.all false
set_option maxRecDepth 100000
set_option autoImplicit false
/-! range with a step; the greatest of a list of data -/
namespace Lv
open PySem PySem.Spec PyProof.Rows L2
/-! range(i, j, c) -/
def rgc (i c : Int) (n : Nat) : List Int := (List.range n).map fun k => i + (k : Nat) * c
def rgN (i j c : Int) : Nat := (Builtin.Range.rangeSize i j c).toNat
def rgOk (i j c : Int) : Prop := c ≠ 0 ∧ c.natAbs < 1073741824 ∧ Builtin.Range.small i j c = true ∧ rgN i j c ≤ LIM
instance (i j c : Int) : Decidable (rgOk i j c) := by unfold rgOk; exact inferInstance
theorem rangeSize_nn (i j c : Int) (hc : c ≠ 0) : 0 ≤ Builtin.Range.rangeSize i j c := by
  unfold Builtin.Range.rangeSize
  split
  · split
    · have := Int.ediv_nonneg (a := j - i - 1) (b := c) (by omega) (by omega)
      omega
    · omega
  · split
    · have := Int.ediv_nonneg (a := i - j - 1) (b := -c) (by omega) (by omega)
      omega
    · omega
theorem rgN_eq {i j c : Int} (hc : c ≠ 0) : Builtin.Range.rangeSize i j c = (rgN i j c : Nat) := by
  have := rangeSize_nn i j c hc
  unfold rgN
  omega
theorem rgOk.rgc {i j c : Int} (h : rgOk i j c) : RgC i j c (rgN i j c) := ⟨h.1, h.2.1, h.2.2.1, rgN_eq h.1⟩
def dRng3 (ds : List D) (μ : Sto) : R Sr := match ds with
  | [.int i, .int j, .int c] => if rgOk i j c then ok (.fix ((rgc i c (rgN i j c)).map D.int)) μ else none
  | _ => none
theorem sr_rangeC {c : Ct} {ρ0 : List Addr} {G0 : Hp} {lo st : Int} {n : Nat} : SrOk c (.fix ((rgc lo st n).map D.int)) (Itc lo st n) ρ0 G0 := by
  intro c' ρ G μ H hK hB hL p e r i o ho
  cases ho
  by_cases hi : i < n
  · have e1 : ((rgc lo st n).map D.int)[i]? = some (.int (lo + (i : Nat) * st)) := by
      unfold rgc
      rw [List.map_map, List.getElem?_map, List.getElem?_range hi]
      rfl
    rw [e1]
    refine ⟨hi, fun x H' y => ?_⟩
    obtain ⟨rfl, rfl⟩ := y
    exact ⟨G, Same.refl _, r, rfl⟩
  · have e1 : ((rgc lo st n).map D.int)[i]? = none := by
      refine List.getElem?_eq_none_iff.mpr ?_
      unfold rgc
      rw [List.map_map, List.length_map, List.length_range]
      omega
    rw [e1]
    show n ≤ i
    omega
section
variable {K : PySem.W.Frag} {mg : Str → Option Value} {E : XK}
theorem reps3 {B : Hp} {ρ : List Addr} {G : Hp} {d e f : D} {vs : List V} (h : Reps K B ρ G [d, e, f] vs) : ∃ v u w, vs = [v, u, w] ∧ Rep K B ρ G d v ∧ Rep K B ρ G e u ∧ Rep K B ρ G f w := by
  obtain ⟨v, r, q, h1, h2⟩ := h
  obtain ⟨u, w, rfl, h3, h4⟩ := reps2 h2
  exact ⟨v, u, w, q, h1, h3, h4⟩
theorem txi_rng3 {f : FEs} : ∀ σ H R, TXi K mg E (fun env μ => rb (f env μ) dRng3) σ H R → iRng3 (TXs K mg E f) σ H R := by
  rintro σ H R ⟨c, env, ρ, G, μ, hK, hm, re, eo, h⟩
  refine txs_use hK hm re eo h fun ds vs ρ1 G1 μ1 H1 p1 e1 r1 eo1 hv h1 => ?_
  unfold dRng3 at h1
  split at h1
  · split at h1
    · rename_i i j k hr
      obtain ⟨v, u, w, rfl, a1, a2, a3⟩ := reps3 hv
      cases a1
      cases a2
      cases a3
      exact ⟨i, j, k, _, rfl, hr.rgc, Fin.ok r1 h1 _ sr_rangeC⟩
    · exact fin_none h1
  · exact fin_none h1
/-! list(range(i, j, c)) -/
def rgV3 (a c : Int) (n : Nat) : List V := (rgc a c n).map V.int
theorem vals_rg3 {a c : Int} {n : Nat} {acc : Array Value} (h : ItemsOf (fun i v => ∃ t, v = .int (a + i * c) t) acc n) : Vals (rgV3 a c n) acc.toList := by
  have e : acc.toList.length = n := by rw [Array.length_toList]; exact h.1
  unfold rgV3 rgc
  rw [← e, List.map_map]
  refine vals_of_get acc.toList _ fun j u hj => ?_
  obtain ⟨t, rfl⟩ := h.2 j u (by rw [← hj, Array.getElem?_toList])
  exact ⟨t, rfl⟩
def tLstRg3 (ta : TA) : TE := fun σ H Q => ta σ H fun vs H1 => ∃ (i j c : Int) (n : Nat), vs = [.int i, .int j, .int c] ∧ RgC i j c n ∧ n ≤ 2 ^ 24 ∧ ∀ q, H1 q = none → Q (.ref q) (upd H1 q (.lst (rgV3 i c n)))
theorem pe_listRg3 {X : Cx} {a b c : Expr} {ta : TA} {p p1 pos q0 : Pos} (hc : X.calm = true) (hg : Gl X "list") (hm : X.mg "list" = none) (hg1 : Gl X "range") (hm1 : X.mg "range" = none) (ha : PA X [a, b, c] ta)
    (hs : starEach [a, b, c] X.env = (false, eval a X.env) :: starEach [b, c] X.env) (hpl : (backTo q0 (starEach [b, c] X.env)).any (·.1) = false) :
    PE X (.Call (.Name "list" p) [.Call (.Name "range" p1) [a, b, c] [] q0] [] pos) (tLstRg3 ta) := by
  refine ⟨fun pins s σ H Q I h => ?_⟩
  refine Call_ (ld_blt I hg hm boot_list (PyProof.Rows.callWith_type1 (args_cons (thn (Q := fun x s' => ∃ r i j k n t u v H', x = .ref r ∧ IsRange s'.heap r i j k t u v ∧ RgC i j k n ∧ n ≤ 2 ^ 24 ∧ Inv X pins σ H' s' ∧ ∀ q, H' q = none → Q (.ref q) (upd H' q (.lst (rgV3 i k n)))) (Call_ (ld_blt I hg1 hm1 boot_range (PyProof.Rows.callWith_type1 (thn (ha.run q0 pins s σ H _ I h) fun us s1 ⟨vs, H1, I1, r1, q1⟩ => ?_) hs hpl))) fun x s1 ⟨r, i, j, k, n, t, u, v, H1, ex, hr, ⟨c0, c1, c2, c3⟩, hn, I1, q⟩ => args_nil ?_) rfl) rfl))
  · obtain ⟨i, j, k, n, e, hrg, hn, q⟩ := q1
    have c0 := hrg.1
    have c1 := hrg.2.1
    subst e
    cases r1 with
    | cons r rr =>
      cases rr with
      | cons r' rr =>
        cases rr with
        | cons r'' rr =>
          cases rr
          obtain ⟨t, rfl⟩ := r
          obtain ⟨t', rfl⟩ := r'
          obtain ⟨t'', rfl⟩ := r''
          exact call_range_3 c0 ⟨_, i, j, k, n, _, _, _, H1, rfl, IsRange.new .., hrg, hn, I1.kept (t' := s1.toks) fun b o e => Heap.get?_push_of_some _ e, q⟩ (.inl (PyProof.noPylong_small c1))
  · subst ex
    refine call_list_range (n := n) (I1.ok.hd hc) hr c2 c3 hn fun h' tk acc c' hk e' hi => ?_
    refine ⟨.ref s1.heap.objs.size, upd H1 s1.heap.objs.size (.lst (rgV3 i k n)), I1.laid hk (Nat.le_refl _) (show ObjOk X.prog X.w _ _ _ (.lst (rgV3 i k n)) from ⟨?_, acc.toList, c', vals_rg3 hi, ?_⟩), rfl, q _ (I1.hok.fresh (Nat.le_refl _))⟩
    · have : (rgV3 i k n).length = n := by unfold rgV3 rgc; simp
      rw [this, sizeLine_eq]
      omega
    · rw [Array.toArray_toList]
      exact e'
def dLrg3 (lv : Bool) (ds : List D) (μ : Sto) : R D := match ds with
  | [.int i, .int j, .int c] => if rgOk i j c then alloc lv ((rgc i c (rgN i j c)).map D.int) μ else none
  | _ => none
theorem tx_lrg3 {f : FEs} (lv : Bool) : ∀ σ H Q, TX K mg E (fun env μ => rb (f env μ) (dLrg3 lv)) σ H Q → tLstRg3 (TXs K mg E f) σ H Q := by
  rintro σ H Q ⟨c, env, ρ, G, μ, hK, hm, re, eo, h⟩
  refine txs_use hK hm re eo h fun ds vs ρ1 G1 μ1 H1 p1 e1 r1 eo1 hv h1 => ?_
  unfold dLrg3 at h1
  split at h1
  · split at h1
    · rename_i i j k hr
      obtain ⟨v, u, w, rfl, a1, a2, a3⟩ := reps3 hv
      cases a1
      cases a2
      cases a3
      have hl := hr.2.2.2
      have hL : LIM = 1000000 := rfl
      exact ⟨i, j, k, _, rfl, hr.rgc, by omega, fun q hq => alloc_use hK r1 Reps.ints hq h1⟩
    · exact fin_none h1
  · exact fin_none h1
/-! the greatest of a list of data -/
def gtAt (ps : List PyData) (i j : Nat) : Bool := PySem.W.dataLt (ps.getD j .none) (ps.getD i .none)
def rMaxX (K : PySem.W.Frag) : List V → Hp → VK → Prop := fun xs H Q => ∃ (a : Addr) (vs : List V) (ps : List PyData), xs = [.ref a] ∧ SqL K H a vs ∧ DpAll K H vs ps ∧ PySem.W.AlikeAll ps ∧ PyData.depthAll ps ≤ 20 ∧ 0 < ps.length ∧ ∀ x, vs[argBest (gtAt ps) (ps.length - 1)]? = some x → Q x H
theorem cr_maxX {X : Cx} (hc : X.calm = true) (hu : X.A.units + 64 < cLine) : CallR X (.builtin "max") (rMaxX X.K) := by
  intro pins s σ H xs us Q I r h
  obtain ⟨a, vs, ps, rfl, hs, hd, ha, hdep, hne, q⟩ := h
  obtain ⟨its, rv, hl, _⟩ := I.list hs
  obtain ⟨as, hr⟩ := Dp.readsAll I ps vs its hd rv
  rw [Vals.ref1 r]
  have hr' : ReadsAll s.heap its.toArray.toList ps as := by simpa using hr
  have hn : its.toArray.size = ps.length := PySem.W.readsAll_len hr'
  refine call_max_walkH (PySem.W.iter_listW (A := X.A.in1) (I.ok.hd hc) hl.isList fun s₂ e W st hfp hw hk => ?_)
  refine ⟨_, _, _, _, _, _, _, s.heap, _, rfl, W, st, hfp, by rw [hn]; exact hne, hw, hk, PySem.W.cmpIn_gt (A := X.A.in1) hr' ha (by show X.A.units + 1 + _ < _; omega), fun v s' hP m => ?_⟩
  obtain ⟨h', tk, rfl, hk'⟩ := PySem.W.moved_old e rfl m
  have hP' : its.toArray[argBest (gtAt ps) (its.toArray.size - 1)]? = some v := hP
  rw [hn] at hP'
  have hP2 : its[argBest (gtAt ps) (ps.length - 1)]? = some v := by simpa using hP'
  have hlt : argBest (gtAt ps) (ps.length - 1) < vs.length := by
    rw [rv.length]
    exact (List.getElem?_eq_some_iff.mp hP2).1
  obtain ⟨u, hu1, hu2⟩ := rv.get (List.getElem?_eq_getElem hlt)
  rw [hP2] at hu1
  cases hu1
  exact ⟨_, H, I.kept hk', hu2, q _ (List.getElem?_eq_getElem hlt)⟩
def alAll (ps : List PyData) : Bool := (ps.all fun x => ps.all fun y => PySem.W.alike x y) && ps.all fun x => !isNone x
theorem alAll_ok {ps : List PyData} (h : alAll ps = true) : PySem.W.AlikeAll ps := by
  unfold alAll at h
  rw [Bool.and_eq_true] at h
  refine ⟨fun x hx y hy => List.all_eq_true.mp (List.all_eq_true.mp h.1 x hx) y hy, fun x hx z => ?_⟩
  have := List.all_eq_true.mp h.2 x hx
  rw [z] at this
  exact absurd this (by decide)
def dMaxX (ds : List D) (μ : Sto) : R D := match ds with
  | [d] => match see μ d with
    | some xs => match omap (py μ 7) xs with
      | some ps => if alAll ps = true then match xs[argBest (gtAt ps) (ps.length - 1)]? with
          | some x => ok x μ
          | none => none
        else none
      | none => none
    | none => none
  | _ => none
theorem maxX_ok : CbD K E (rMaxX K) dMaxX := by
  intro c ρ G H μ ds vs Q hK r hs h
  subst hK
  unfold dMaxX at h
  split at h
  · rename_i d
    obtain ⟨v, rfl, hv⟩ := reps1 hs
    split at h
    · rename_i xs e1
      split at h
      · rename_i ps e2
        split at h
        · rename_i hal
          split at h
          · rename_i x e3
            obtain ⟨a, us, rfl, h1, h2⟩ := see_ok r e1 hv
            obtain ⟨b1, b2, b3⟩ := dp_all (py_dp r 7) xs us ps e2 h2
            have hlt := (List.getElem?_eq_some_iff.mp e3).1
            have hlp : xs.length = ps.length := by
              have : ∀ (xs : List D) (ps : List PyData), omap (py μ 7) xs = some ps → xs.length = ps.length := fun xs => by
                induction xs with
                | nil => intro ps e; cases e; rfl
                | cons x r ih =>
                  intro ps e
                  unfold omap at e
                  cases e4 : py μ 7 x with
                  | none => rw [e4] at e; cases e
                  | some p =>
                    cases e5 : omap (py μ 7) r with
                    | none => rw [e4, e5] at e; cases e
                    | some qs =>
                      rw [e4, e5] at e
                      cases e
                      rw [List.length_cons, List.length_cons, ih _ e5]
              exact this xs ps e2
            refine ⟨a, us, ps, rfl, .inl (.inl h1), b1, alAll_ok hal, by omega, by omega, fun w hw => ?_⟩
            obtain ⟨w', q1, q2⟩ := h2.get e3
            rw [hw] at q1
            cases q1
            exact Fin.ok r h _ q2
          · exact fin_none h
        · exact fin_none h
      · exact fin_none h
    · exact fin_none h
  · exact fin_none h
end
end Lv
set_option Elab.async false
set_option linter.all false
set_option maxRecDepth 100000
set_option autoImplicit false
/-! dicts: keys are whole numbers, texts, or tuples of these -/
namespace Lv
open PySem PySem.Spec PyProof.Rows L2
def keyD : D → Option Key
  | .int i => some (.inl i)
  | .str x => some (.inr x)
  | _ => none
def seeK (μ : Sto) : D → Option (List (Key × D))
  | .dK _ kvs => some kvs
  | .ref n => match μ[n]? with
    | some (.dK _ kvs) => some kvs
    | _ => none
  | _ => none
def seeT (μ : Sto) : D → Option (List (List Key × D))
  | .dT _ kvs => some kvs
  | .ref n => match μ[n]? with
    | some (.dT _ kvs) => some kvs
    | _ => none
  | _ => none
def valD {κ : Type} [DecidableEq κ] (kvs : List (κ × D)) (k : κ) : Option D := (kvs.find? fun kv => decide (kv.1 = k)).map (·.2)
def putD {κ : Type} [DecidableEq κ] (kvs : List (κ × D)) (k : κ) (d : D) : List (κ × D) :=
  if (kvs.any fun kv => decide (kv.1 = k)) = true then kvs.map fun kv => if kv.1 = k then (kv.1, d) else kv else kvs ++ [(k, d)]
section
variable {K : PySem.W.Frag} {B : Hp} {ρ : List Addr} {G : Hp}
theorem keyD_ok {d : D} {v : V} {k : Key} (h : keyD d = some k) (hv : Rep K B ρ G d v) : v = kV k := by
  unfold keyD at h
  split at h
  · cases h
    exact hv
  · cases h
    exact hv
  · cases h
theorem keyR_ok (k : Key) : Rep K B ρ G (keyR k) (kV k) := by
  cases k <;> rfl
theorem keysD_ok : ∀ {ds : List D} {vs : List V} {ks : List Key}, omap keyD ds = some ks → Reps K B ρ G ds vs → vs = ks.map kV
  | [], _, _, h, q => by
    cases h
    exact q
  | d :: r, _, ks, h, ⟨v, s, e, h1, h2⟩ => by
    unfold omap at h
    cases e1 : keyD d with
    | none =>
      rw [e1] at h
      cases h
    | some k =>
      cases e2 : omap keyD r with
      | none =>
        rw [e1, e2] at h
        cases h
      | some ks' =>
        rw [e1, e2] at h
        cases h
        rw [e, keyD_ok e1 h1, keysD_ok e2 h2]
        rfl
theorem repK_val {k : Key} : ∀ {kvs : List (Key × D)} {ws : List (Key × V)}, RepK K B ρ G kvs ws → (valD kvs k = none ∧ valV ws k = none) ∨ ∃ d v, valD kvs k = some d ∧ valV ws k = some v ∧ Rep K B ρ G d v
  | [], _, h => by
    cases h
    exact .inl ⟨rfl, rfl⟩
  | (k', d) :: r, _, ⟨v, s, e, h1, h2⟩ => by
    subst e
    unfold valD valV
    by_cases q : k' = k
    · refine .inr ⟨d, v, ?_, ?_, h1⟩ <;> simp [q]
    · have i := repK_val (k := k) h2
      unfold valD valV at i
      simpa [q] using i
theorem repT_val {k : List Key} : ∀ {kvs : List (List Key × D)} {ws : List (List Key × V)}, RepT K B ρ G kvs ws → (valD kvs k = none ∧ valV ws k = none) ∨ ∃ d v, valD kvs k = some d ∧ valV ws k = some v ∧ Rep K B ρ G d v
  | [], _, h => by
    cases h
    exact .inl ⟨rfl, rfl⟩
  | (k', d) :: r, _, ⟨v, s, e, h1, h2⟩ => by
    subst e
    unfold valD valV
    by_cases q : k' = k
    · refine .inr ⟨d, v, ?_, ?_, h1⟩ <;> simp [q]
    · have i := repT_val (k := k) h2
      unfold valD valV at i
      simpa [q] using i
theorem RepK.len : ∀ {kvs : List (Key × D)} {ws : List (Key × V)}, RepK K B ρ G kvs ws → kvs.length = ws.length
  | [], _, h => by
    cases h
    rfl
  | (k', d) :: r, _, ⟨v, s, e, h1, h2⟩ => by
    subst e
    rw [List.length_cons, List.length_cons, RepK.len h2]
theorem RepT.len : ∀ {kvs : List (List Key × D)} {ws : List (List Key × V)}, RepT K B ρ G kvs ws → kvs.length = ws.length
  | [], _, h => by
    cases h
    rfl
  | (k', d) :: r, _, ⟨v, s, e, h1, h2⟩ => by
    subst e
    rw [List.length_cons, List.length_cons, RepT.len h2]
theorem RepK.any {k : Key} : ∀ {kvs : List (Key × D)} {ws : List (Key × V)}, RepK K B ρ G kvs ws → (kvs.any fun kv => decide (kv.1 = k)) = (ws.any fun kv => decide (kv.1 = k))
  | [], _, h => by
    cases h
    rfl
  | (k', d) :: r, _, ⟨v, s, e, h1, h2⟩ => by
    subst e
    rw [List.any_cons, List.any_cons, RepK.any h2]
theorem RepT.any {k : List Key} : ∀ {kvs : List (List Key × D)} {ws : List (List Key × V)}, RepT K B ρ G kvs ws → (kvs.any fun kv => decide (kv.1 = k)) = (ws.any fun kv => decide (kv.1 = k))
  | [], _, h => by
    cases h
    rfl
  | (k', d) :: r, _, ⟨v, s, e, h1, h2⟩ => by
    subst e
    rw [List.any_cons, List.any_cons, RepT.any h2]
theorem RepK.mapk {k : Key} {d : D} {v : V} (hv : Rep K B ρ G d v) : ∀ {kvs : List (Key × D)} {ws : List (Key × V)}, RepK K B ρ G kvs ws → RepK K B ρ G (kvs.map fun kv => if kv.1 = k then (kv.1, d) else kv) (ws.map fun kv => if kv.1 = k then (kv.1, v) else kv)
  | [], _, h => by
    cases h
    rfl
  | (k', d') :: r, _, ⟨v', s, e, h1, h2⟩ => by
    subst e
    by_cases q : k' = k
    · simp only [List.map_cons, q, if_true]
      exact ⟨v, _, rfl, hv, RepK.mapk hv h2⟩
    · simp only [List.map_cons, q, if_false]
      exact ⟨v', _, rfl, h1, RepK.mapk hv h2⟩
theorem RepT.mapk {k : List Key} {d : D} {v : V} (hv : Rep K B ρ G d v) : ∀ {kvs : List (List Key × D)} {ws : List (List Key × V)}, RepT K B ρ G kvs ws → RepT K B ρ G (kvs.map fun kv => if kv.1 = k then (kv.1, d) else kv) (ws.map fun kv => if kv.1 = k then (kv.1, v) else kv)
  | [], _, h => by
    cases h
    rfl
  | (k', d') :: r, _, ⟨v', s, e, h1, h2⟩ => by
    subst e
    by_cases q : k' = k
    · simp only [List.map_cons, q, if_true]
      exact ⟨v, _, rfl, hv, RepT.mapk hv h2⟩
    · simp only [List.map_cons, q, if_false]
      exact ⟨v', _, rfl, h1, RepT.mapk hv h2⟩
theorem RepK.snoc {k : Key} {d : D} {v : V} (hv : Rep K B ρ G d v) : ∀ {kvs : List (Key × D)} {ws : List (Key × V)}, RepK K B ρ G kvs ws → RepK K B ρ G (kvs ++ [(k, d)]) (ws ++ [(k, v)])
  | [], _, h => by
    cases h
    exact ⟨v, [], rfl, hv, rfl⟩
  | (k', d') :: r, _, ⟨v', s, e, h1, h2⟩ => by
    subst e
    exact ⟨v', _, rfl, h1, RepK.snoc hv h2⟩
theorem RepT.snoc {k : List Key} {d : D} {v : V} (hv : Rep K B ρ G d v) : ∀ {kvs : List (List Key × D)} {ws : List (List Key × V)}, RepT K B ρ G kvs ws → RepT K B ρ G (kvs ++ [(k, d)]) (ws ++ [(k, v)])
  | [], _, h => by
    cases h
    exact ⟨v, [], rfl, hv, rfl⟩
  | (k', d') :: r, _, ⟨v', s, e, h1, h2⟩ => by
    subst e
    exact ⟨v', _, rfl, h1, RepT.snoc hv h2⟩
theorem RepK.put {k : Key} {d : D} {v : V} {kvs : List (Key × D)} {ws : List (Key × V)} (h : RepK K B ρ G kvs ws) (hv : Rep K B ρ G d v) : RepK K B ρ G (putD kvs k d) (putK ws k v) := by
  unfold putD putK
  rw [h.any]
  split
  · exact h.mapk hv
  · exact h.snoc hv
theorem RepT.put {k : List Key} {d : D} {v : V} {kvs : List (List Key × D)} {ws : List (List Key × V)} (h : RepT K B ρ G kvs ws) (hv : Rep K B ρ G d v) : RepT K B ρ G (putD kvs k d) (putK ws k v) := by
  unfold putD putK
  rw [h.any]
  split
  · exact h.mapk hv
  · exact h.snoc hv
theorem RepK.keys : ∀ {kvs : List (Key × D)} {ws : List (Key × V)}, RepK K B ρ G kvs ws → Reps K B ρ G (kvs.map fun kv => keyR kv.1) (ws.map fun kv => kV kv.1)
  | [], _, h => by
    cases h
    rfl
  | (k', d') :: r, _, ⟨v', s, e, h1, h2⟩ => by
    subst e
    exact .cons (keyR_ok k') (RepK.keys h2)
end
section
variable {c : Ct} {ρ : List Addr} {G H : Hp} {μ : Sto}
theorem seeKd_ok (r : Rel c ρ G μ H) {d : D} {v : V} {kvs : List (Key × D)} (h : seeK μ d = some kvs) (hv : Rep c.K c.B ρ G d v) : ∃ a ws, v = .ref a ∧ H a = some (.dK ws) ∧ RepK c.K c.B ρ G kvs ws := by
  unfold seeK at h
  split at h
  · cases h
    obtain ⟨a, ws, e, h1, h2⟩ := hv
    exact ⟨a, ws, e, pick_h r h1, h2⟩
  · split at h
    · rename_i e0
      cases h
      exact seeK_ok r e0 hv
    · cases h
  · cases h
theorem seeTd_ok (r : Rel c ρ G μ H) {d : D} {v : V} {kvs : List (List Key × D)} (h : seeT μ d = some kvs) (hv : Rep c.K c.B ρ G d v) : ∃ a ws, v = .ref a ∧ H a = some (.dT ws) ∧ RepT c.K c.B ρ G kvs ws := by
  unfold seeT at h
  split at h
  · cases h
    obtain ⟨a, ws, e, h1, h2⟩ := hv
    exact ⟨a, ws, e, pick_h r h1, h2⟩
  · split at h
    · rename_i e0
      cases h
      exact seeT_ok r e0 hv
    · cases h
  · cases h
/-- what a dict has at a key -/
def dLook (x y : D) (μ : Sto) : Option (Option D) := match seeK μ x with
  | some kvs => match y with
    | .non => some none
    | y => (keyD y).map fun k => valD kvs k
  | none => match seeT μ x, y with
    | some kvs, .tup ks => (omap keyD ks).map fun k => valD kvs k
    | _, _ => none
theorem look_ok (r : Rel c ρ G μ H) {x y : D} {u w : V} {o : Option D} (h : dLook x y μ = some o) (hx : Rep c.K c.B ρ G x u) (hy : Rep c.K c.B ρ G y w) : (∃ a p, u = .ref a ∧ DGet H a w p ∧ ((o = none ∧ p = none) ∨ ∃ d v, o = some d ∧ p = some v ∧ Rep c.K c.B ρ G d v)) ∨ ∃ a ws, u = .ref a ∧ w = .non ∧ Rd H a (.dK ws) ∧ o = none := by
  unfold dLook at h
  split at h
  · rename_i kvs e1
    obtain ⟨a, ws, rfl, h1, h2⟩ := seeKd_ok r e1 hx
    split at h
    · cases h
      cases hy
      exact .inr ⟨a, ws, rfl, rfl, .inl h1, rfl⟩
    · cases e2 : keyD y with
      | none =>
        rw [e2] at h
        cases h
      | some k =>
        rw [e2] at h
        cases h
        exact .inl ⟨a, valV ws k, rfl, .inl ⟨ws, k, .inl h1, keyD_ok e2 hy, rfl⟩, repK_val h2⟩
  · split at h
    · rename_i kvs ks e1
      cases e2 : omap keyD ks with
      | none =>
        rw [e2] at h
        cases h
      | some k =>
        rw [e2] at h
        cases h
        obtain ⟨a, ws, rfl, h1, h2⟩ := seeTd_ok r e1 hx
        obtain ⟨b, vs, rfl, h3, h4⟩ := hy
        refine .inl ⟨a, valV ws k, rfl, .inr ⟨ws, k, b, .inl h1, rfl, ?_, rfl⟩, repT_val h2⟩
        rw [← keysD_ok e2 h4]
        exact r.gh _ _ h3
    · cases h
end
/-! the operations -/
def dDix (x y : D) (μ : Sto) : R D := match dLook x y μ with
  | some (some d) => ok d μ
  | _ => none
def dDin (neg : Bool) (y x : D) (μ : Sto) : R D := match dLook x y μ with
  | some o => ok (.bl (if neg = true then !o.isSome else o.isSome)) μ
  | none => none
def isDc (μ : Sto) (d : D) : Bool := (seeK μ d).isSome || (seeT μ d).isSome
def dGetL (d : D) (ds : List D) (μ : Sto) : R D := match ds with
  | [y] => match dLook d y μ with
    | some o => ok (o.getD .non) μ
    | none => none
  | [y, z] => match dLook d y μ with
    | some o => ok (o.getD z) μ
    | none => none
  | _ => none
def fGet (f : FE) (fs : FEs) : FE := fun env μ => rb (f env μ) fun d μ1 => if isDc μ1 d = true then rb (fs env μ1) fun ds μ2 => dGetL d ds μ2 else none
def dNew (t : Bool) : FE := fun _ μ => ok (.ref μ.length) (μ ++ [if t = true then .dT .live [] else .dK .live []])
def dKeys (lv : Bool) (ds : List D) (μ : Sto) : R D := match ds with
  | [d] => match seeK μ d with
    | some kvs => alloc lv (kvs.map fun kv => keyR kv.1) μ
    | none => none
  | _ => none
def dDlen (ds : List D) (μ : Sto) : R D := match ds with
  | [d] => match seeK μ d with
    | some kvs => ok (.int (kvs.length : Nat)) μ
    | none => none
  | _ => none
def dPut (o i d : D) (μ : Sto) : R Unit := match o with
  | .ref n => match μ[n]?, keyD i, i with
    | some (.dK .live kvs), some k, _ => if kvs.length < LIM then ok () (μ.set n (.dK .live (putD kvs k d))) else none
    | some (.dT .live kvs), _, .tup ks => match omap keyD ks with
      | some k => if kvs.length < LIM then ok () (μ.set n (.dT .live (putD kvs k d))) else none
      | none => none
    | _, _, _ => none
  | _ => none
def sDset (fo fi fv : FE) : FS := fun env μ => rb (fv env μ) fun d μ1 => rb (fo env μ1) fun o μ2 => rb (fi env μ2) fun i μ3 => rb (dPut o i d μ3) fun _ μ4 => ok (.nx env) μ4
section
variable {K : PySem.W.Frag} {mg : Str → Option Value} {E : XK}
theorem dix_ok : OpD K E (fun x y H Q => ∃ a v, x = V.ref a ∧ DGet H a y (some v) ∧ Q v H) dDix := by
  intro c ρ G H μ d e x y Q hK r hx hy h
  subst hK
  unfold dDix at h
  split at h
  · rename_i w e0
    rcases look_ok r e0 hx hy with ⟨a, p, rfl, h1, h2⟩ | ⟨_, _, _, _, _, z⟩
    · rcases h2 with ⟨q, _⟩ | ⟨d', v, q, rfl, h2⟩
      · cases q
      · cases q
        exact ⟨a, v, rfl, h1, val_use rfl r h2 h⟩
    · cases z
  · exact fin_none h
theorem din_ok : OpD K E (fun y x H Q => (∃ a o, x = V.ref a ∧ DGet H a y o ∧ Q (V.bl o.isSome) H) ∨ ∃ a kvs, x = .ref a ∧ y = .non ∧ Rd H a (.dK kvs) ∧ Q (.bl false) H) (dDin false) := by
  intro c ρ G H μ d e x y Q hK r hx hy h
  subst hK
  unfold dDin at h
  split at h
  · rename_i o e0
    rcases look_ok r e0 hy hx with ⟨a, p, rfl, h1, h2⟩ | ⟨a, ws, rfl, e1, h1, rfl⟩
    · refine .inl ⟨a, p, rfl, h1, ?_⟩
      rcases h2 with ⟨q, q'⟩ | ⟨d', v, q, q', h2⟩
      · subst q q'
        exact val_use (d := .bl _) (v := .bl _) rfl r rfl h
      · subst q q'
        exact val_use (d := .bl _) (v := .bl _) rfl r rfl h
    · exact .inr ⟨a, ws, rfl, e1, h1, val_use (d := .bl _) (v := .bl _) rfl r rfl h⟩
  · exact fin_none h
theorem dnin_ok : OpD K E (fun y x H Q => (∃ a o, x = V.ref a ∧ DGet H a y o ∧ Q (V.bl (!o.isSome)) H) ∨ ∃ a kvs, x = .ref a ∧ y = .non ∧ Rd H a (.dK kvs) ∧ Q (.bl true) H) (dDin true) := by
  intro c ρ G H μ d e x y Q hK r hx hy h
  subst hK
  unfold dDin at h
  split at h
  · rename_i o e0
    rcases look_ok r e0 hy hx with ⟨a, p, rfl, h1, h2⟩ | ⟨a, ws, rfl, e1, h1, rfl⟩
    · refine .inl ⟨a, p, rfl, h1, ?_⟩
      rcases h2 with ⟨q, q'⟩ | ⟨d', v, q, q', h2⟩
      · subst q q'
        exact val_use (d := .bl _) (v := .bl _) rfl r rfl h
      · subst q q'
        exact val_use (d := .bl _) (v := .bl _) rfl r rfl h
    · exact .inr ⟨a, ws, rfl, e1, h1, val_use (d := .bl _) (v := .bl _) rfl r rfl h⟩
  · exact fin_none h
theorem isDc_ok {c : Ct} {ρ : List Addr} {G H : Hp} {μ : Sto} (r : Rel c ρ G μ H) {d : D} {v : V} (h : isDc μ d = true) (hv : Rep c.K c.B ρ G d v) : tyV c.K "dict" v H := by
  unfold isDc at h
  rcases Bool.or_eq_true_iff.mp h with q | q
  · obtain ⟨kvs, q⟩ := Option.isSome_iff_exists.mp q
    obtain ⟨a, ws, e, h1, _⟩ := seeKd_ok r q hv
    subst e
    exact .inr (.inr (.inl ⟨rfl, .inl ⟨ws, h1⟩⟩))
  · obtain ⟨kvs, q⟩ := Option.isSome_iff_exists.mp q
    obtain ⟨a, ws, e, h1, _⟩ := seeTd_ok r q hv
    subst e
    exact .inr (.inr (.inl ⟨rfl, .inr ⟨ws, h1⟩⟩))
def rDGetA : V → List V → Hp → VK → Prop := fun x xs H Q => ∃ a, x = V.ref a ∧ ((∃ y o, xs = [y] ∧ DGet H a y o ∧ Q (o.getD .non) H) ∨ (∃ y z o, xs = [y, z] ∧ DGet H a y o ∧ Q (o.getD z) H) ∨ (∃ kvs, xs = [.non] ∧ Rd H a (.dK kvs) ∧ Q .non H) ∨ ∃ kvs z, xs = [.non, z] ∧ Rd H a (.dK kvs) ∧ Q z H)
theorem mt_get {X : Cx} (hu : X.A.units + 1 < cLine) : MtR X "dict.get" rDGetA := by
  intro pins s σ H x xs v us Q I rx rs h
  obtain ⟨a, rfl, h⟩ := h
  cases rx
  rcases h with ⟨y, o, rfl, hd, q⟩ | ⟨y, z, o, rfl, hd, q⟩ | ⟨kvs, rfl, hd, q⟩ | ⟨kvs, z, rfl, hd, q⟩
  · cases rs with
    | cons r1 rs =>
      cases rs
      exact d_get1 hu I hd r1 fun w' s' I' r' => ⟨_, H, I', r', q⟩
  · cases rs with
    | cons r1 rs =>
      cases rs with
      | cons r2 rs =>
        cases rs
        exact d_get2 hu I hd r1 r2 fun w' s' I' r' => ⟨_, H, I', r', q⟩
  · cases rs with
    | cons r1 rs =>
      cases rs
      cases r1
      obtain ⟨hl, hs, vs, hv, hdo⟩ := dk_rd I.hok hd
      obtain ⟨f, hf, hn⟩ := none_map hdo
      refine call_meetsIn F.slot_dict_get (isD_at I (.inl ⟨_, hd⟩)).1 F.entry_dict_get (F.args_dict_get_2 _ _) (meets_dict_get (noneKind X.prog X.w) (k := none) a rfl hs) ⟨f, hf, ?_⟩
      rw [hn]
      exact ⟨.non, H, I.tok _, rfl, q⟩
  · cases rs with
    | cons r1 rs =>
      cases rs with
      | cons r2 rs =>
        cases rs
        cases r1
        obtain ⟨hl, hs, vs, hv, hdo⟩ := dk_rd I.hok hd
        obtain ⟨f, hf, hn⟩ := none_map hdo
        refine call_meetsIn F.slot_dict_get (isD_at I (.inl ⟨_, hd⟩)).1 F.entry_dict_get (F.args_dict_get_3 _ _ _) (meets_dict_get_default (noneKind X.prog X.w) (k := none) a rfl hs _) ⟨f, hf, ?_⟩
        rw [hn]
        exact ⟨z, H, I.tok _, r2, q⟩
theorem getL_ok {c : Ct} {ρ : List Addr} {G H : Hp} {μ : Sto} {d : D} {v : V} {ds : List D} {vs : List V} {Q : VK} (r : Rel c ρ G μ H) (hv : Rep c.K c.B ρ G d v) (hs : Reps c.K c.B ρ G ds vs)
    (h : Fin c E ρ G (dGetL d ds μ) fun d ρ' G' _ H' => ∀ v, Rep c.K c.B ρ' G' d v → Q v H') : rDGetA v vs H Q := by
  unfold dGetL at h
  split at h
  · obtain ⟨w, rfl, hw⟩ := reps1 hs
    split at h
    · rename_i o e0
      rcases look_ok r e0 hv hw with ⟨a, p, rfl, h1, h2⟩ | ⟨a, ws, rfl, e1, h1, rfl⟩
      · refine ⟨a, rfl, .inl ⟨w, p, rfl, h1, ?_⟩⟩
        rcases h2 with ⟨q, q'⟩ | ⟨d', v', q, q', h2⟩
        · subst q q'
          exact val_use (d := .non) (v := .non) rfl r rfl h
        · subst q q'
          exact val_use rfl r h2 h
      · subst e1
        exact ⟨a, rfl, .inr (.inr (.inl ⟨ws, rfl, h1, val_use (d := .non) (v := .non) rfl r rfl h⟩))⟩
    · exact fin_none h
  · obtain ⟨w, u, rfl, hw, hu⟩ := reps2 hs
    split at h
    · rename_i o e0
      rcases look_ok r e0 hv hw with ⟨a, p, rfl, h1, h2⟩ | ⟨a, ws, rfl, e1, h1, rfl⟩
      · refine ⟨a, rfl, .inr (.inl ⟨w, u, p, rfl, h1, ?_⟩)⟩
        rcases h2 with ⟨q, q'⟩ | ⟨d', v', q, q', h2⟩
        · subst q q'
          exact val_use rfl r hu h
        · subst q q'
          exact val_use rfl r h2 h
      · subst e1
        exact ⟨a, rfl, .inr (.inr (.inr ⟨ws, u, rfl, h1, val_use rfl r hu h⟩))⟩
    · exact fin_none h
  · exact fin_none h
theorem tx_get {f : FE} {fs : FEs} : ∀ σ H Q, TX K mg E (fGet f fs) σ H Q → tBM K "dict" rDGetA (TX K mg E f) (TXs K mg E fs) σ H Q := by
  rintro σ H Q ⟨c, env, ρ, G, μ, hK, hm, re, eo, h⟩
  subst hK
  refine tx_use rfl hm re eo h fun d v ρ1 G1 μ1 H1 p1 e1 r1 eo1 hv h1 => ?_
  split at h1
  · rename_i hl
    refine ⟨isDc_ok r1 hl hv, txs_use rfl hm r1 eo1 h1 fun ds vs ρ2 G2 μ2 H2 p2 e2 r2 eo2 hvs h2 => ?_⟩
    exact getL_ok r2 (hv.mono p2 e2) hvs h2
  · exact fin_none h1
theorem tx_dnewK : ∀ σ H Q, TX K mg E (dNew false) σ H Q → tDNewK σ H Q := by
  rintro σ H Q ⟨c, env, ρ, G, μ, hK, hm, r, eo, h⟩ p hp
  subst hK
  refine Fin.ok_at (List.prefix_append _ _) (Same.refl _) (r.cell (o := .dK []) (x := .dK .live []) hp (fun _ z => by cases z) ⟨r.none_b hp, r.none_g hp, [], upd_same, rfl⟩) h _ ⟨p, rfl, ?_⟩
  rw [List.getElem?_append_right (by rw [r.ln]; exact Nat.le_refl _), r.ln, Nat.sub_self]
  rfl
theorem tx_dnewT : ∀ σ H Q, TX K mg E (dNew true) σ H Q → tDNewT σ H Q := by
  rintro σ H Q ⟨c, env, ρ, G, μ, hK, hm, r, eo, h⟩ p hp
  subst hK
  refine Fin.ok_at (List.prefix_append _ _) (Same.refl _) (r.cell (o := .dT []) (x := .dT .live []) hp (fun _ z => by cases z) ⟨r.none_b hp, r.none_g hp, [], upd_same, rfl⟩) h _ ⟨p, rfl, ?_⟩
  rw [List.getElem?_append_right (by rw [r.ln]; exact Nat.le_refl _), r.ln, Nat.sub_self]
  rfl
theorem keys_ok (lv : Bool) : CbD K E (fun xs H Q => ∃ a kvs, xs = [V.ref a] ∧ Rd H a (HO.dK kvs) ∧ ∀ (p : Addr), H p = none → Q (V.ref p) (upd H p (HO.lst (List.map (fun kv => kV kv.fst) kvs)))) (dKeys lv) := by
  intro c ρ G H μ ds vs Q hK r hs h
  subst hK
  unfold dKeys at h
  split at h
  · obtain ⟨v, rfl, hv⟩ := reps1 hs
    split at h
    · rename_i kvs e0
      obtain ⟨a, ws, rfl, h1, h2⟩ := seeKd_ok r e0 hv
      exact ⟨a, ws, rfl, .inl h1, fun p hp => alloc_use rfl r h2.keys hp h⟩
    · exact fin_none h
  · exact fin_none h
theorem dlen_ok : CbD K E (fun xs H Q => ∃ a kvs, xs = [V.ref a] ∧ H a = some (HO.dK kvs) ∧ Q (V.int ↑kvs.length) H) dDlen := by
  intro c ρ G H μ ds vs Q hK r hs h
  subst hK
  unfold dDlen at h
  split at h
  · obtain ⟨v, rfl, hv⟩ := reps1 hs
    split at h
    · rename_i kvs e0
      obtain ⟨a, ws, rfl, h1, h2⟩ := seeKd_ok r e0 hv
      refine ⟨a, ws, rfl, h1, ?_⟩
      rw [← h2.len]
      exact val_use (d := .int _) (v := .int _) rfl r rfl h
    · exact fin_none h
  · exact fin_none h
theorem dput_use {c : Ct} {ρ : List Addr} {G H : Hp} {μ : Sto} {α : Type} {o i d : D} {x y v : V} {k : Sto → R α} {Q : α → List Addr → Hp → Sto → Hp → Prop} {T : Hp → Prop} (hK : c.K = K) (r : Rel c ρ G μ H) (hx : Rep K c.B ρ G o x) (hy : Rep K c.B ρ G i y) (hv : Rep K c.B ρ G d v)
    (h : Fin c E ρ G (rb (dPut o i d μ) fun _ μ1 => k μ1) Q) (step : ∀ μ1 H1, Rel c ρ G μ1 H1 → Fin c E ρ G (k μ1) Q → T H1) : ∃ a H4, x = V.ref a ∧ DPut H a y v H4 ∧ T H4 := by
  subst hK
  unfold dPut at h
  split at h
  · rename_i n
    obtain ⟨a, rfl, ha⟩ := hx
    split at h
    · rename_i kvs kk e1 e2
      split at h
      · rename_i hl
        obtain ⟨hb, hg, ws, hH, hr⟩ := r.cl n a _ ha e1
        refine ⟨a, _, rfl, .inl ⟨ws, kk, hH, keyD_ok e2 hy, ?_, rfl⟩, step _ _ (r.write (o := .dK (putK ws kk v)) (x := .dK .live (putD kvs kk d)) ha hg hb (fun _ z => by cases z) ⟨hb, hg, _, upd_same, hr.put hv⟩) h⟩
        rw [← hr.len]
        exact Nat.lt_of_lt_of_le hl (by decide)
      · exact fin_none h
    · rename_i kvs ks e1
      split at h
      · rename_i kk e2
        split at h
        · rename_i hl
          obtain ⟨hb, hg, ws, hH, hr⟩ := r.cl n a _ ha e1
          obtain ⟨b, vs, rfl, h3, h4⟩ := hy
          refine ⟨a, _, rfl, .inr ⟨ws, kk, b, hH, rfl, ?_, ?_, rfl⟩, step _ _ (r.write (o := .dT (putK ws kk v)) (x := .dT .live (putD kvs kk d)) ha hg hb (fun _ z => by cases z) ⟨hb, hg, _, upd_same, hr.put hv⟩) h⟩
          · rw [← keysD_ok e2 h4]
            exact r.gh _ _ h3
          · rw [← hr.len]
            exact Nat.lt_of_lt_of_le hl (by decide)
        · exact fin_none h
      · exact fin_none h
    · exact fin_none h
  · exact fin_none h
theorem ts_dset {fo fi fv : FE} : ∀ Dn σ H, TSx K mg E (sDset fo fi fv) Dn σ H → sDPut (TX K mg E fo) (TX K mg E fi) (TX K mg E fv) Dn σ H := by
  rintro Dn σ H ⟨c, env, ρ, G, μ, hK, hm, re, eo, h⟩
  subst hK
  refine tx_use rfl hm re eo h fun d v ρ1 G1 μ1 H1 p1 e1 r1 eo1 hv h1 => ?_
  refine tx_use rfl hm r1 eo1 h1 fun o x ρ2 G2 μ2 H2 p2 e2 r2 eo2 hx h2 => ?_
  refine tx_use rfl hm r2 eo2 h2 fun i y ρ3 G3 μ3 H3 p3 e3 r3 eo3 hy h3 => ?_
  exact dput_use rfl r3 (hx.mono p3 e3) hy (hv.mono (p2.trans p3) (e2.trans e3)) h3 fun μ4 H4 r4 h4 => Fin.ok r4 h4 σ eo3
end
end Lv
set_option Elab.async false
set_option linter.all false
set_option maxRecDepth 100000
set_option autoImplicit false
/-! dicts: d.setdefault(k, v); [d[k] for k in d] -/
namespace Lv
open PySem PySem.Spec PyProof.Rows L2
def dSetd (o i d : D) (μ : Sto) : R D := match o with
  | .ref n => match μ[n]?, keyD i with
    | some (.dK .live kvs), some k => match valD kvs k with
      | some w => if kvs.length < LIM then ok w μ else none
      | none => if kvs.length < LIM then ok d (μ.set n (.dK .live (putD kvs k d))) else none
    | _, _ => none
  | _ => none
def fSetd (f g v : FE) : FE := fun env μ => rb (f env μ) fun d μ1 => if isDc μ1 d = true then rb (g env μ1) fun y μ2 => rb (v env μ2) fun z μ3 => dSetd d y z μ3 else none
def fVals (lv : Bool) (i kx : Nat) : FE := fun env μ => match env[i]? with
  | some (some (.ref n)) => match μ[n]? with
    | some (.dK .live kvs) => match omap (fun kv => valD kvs kv.1) kvs with
      | some ds => if kvs.length < LIM ∧ kx < env.length then alloc lv ds μ else none
      | none => none
    | _ => none
  | _ => none
section
variable {K : PySem.W.Frag} {mg : Str → Option Value} {E : XK}
theorem isDc_d {c : Ct} {ρ : List Addr} {G H : Hp} {μ : Sto} (r : Rel c ρ G μ H) {d : D} {v : V} (h : isDc μ d = true) (hv : Rep c.K c.B ρ G d v) : ∃ a, v = .ref a ∧ IsD H a := by
  unfold isDc at h
  rcases Bool.or_eq_true_iff.mp h with q | q
  · obtain ⟨kvs, e⟩ := Option.isSome_iff_exists.mp q
    obtain ⟨a, ws, rfl, h1, _⟩ := seeKd_ok r e hv
    exact ⟨a, rfl, .inl ⟨ws, .inl h1⟩⟩
  · obtain ⟨kvs, e⟩ := Option.isSome_iff_exists.mp q
    obtain ⟨a, ws, rfl, h1, _⟩ := seeTd_ok r e hv
    exact ⟨a, rfl, .inr ⟨ws, .inl h1⟩⟩
theorem tx_setd {f g w : FE} : ∀ σ H Q, TX K mg E (fSetd f g w) σ H Q → tDSetd (TX K mg E f) (TX K mg E g) (TX K mg E w) σ H Q := by
  rintro σ H Q ⟨c, env, ρ, G, μ, hK, hm, re, eo, h⟩
  subst hK
  refine tx_use rfl hm re eo h fun d v ρ1 G1 μ1 H1 p1 e1 r1 eo1 hv h1 => ?_
  split at h1
  case isFalse => exact fin_none h1
  rename_i hl
  obtain ⟨a0, ea, hd⟩ := isDc_d r1 hl hv
  refine ⟨a0, ea, hd, tx_use rfl hm r1 eo1 h1 fun i y ρ2 G2 μ2 H2 p2 e2 r2 eo2 hy h2 => tx_use rfl hm r2 eo2 h2 fun z u ρ3 G3 μ3 H3 p3 e3 r3 eo3 hz h3 => ?_⟩
  have hv3 := hv.mono (p2.trans p3) (e2.trans e3)
  have hy3 := hy.mono p3 e3
  clear hv hy
  unfold dSetd at h3
  split at h3
  · rename_i n
    obtain ⟨a, rfl, ha⟩ := hv3
    cases ea
    split at h3
    · rename_i kvs kk q1 q2
      obtain ⟨hb, hg, ws, hH, hr⟩ := r3.cl n a0 _ ha q1
      have hlen := hr.len
      rcases repK_val (k := kk) hr with ⟨v1, v2⟩ | ⟨dd, vv, v1, v2, hrep⟩
      · rw [v1] at h3
        simp only at h3
        split at h3
        · rename_i hlim
          refine ⟨ws, kk, hH, keyD_ok q2 hy3, by rw [← hlen]; exact Nat.lt_of_lt_of_le hlim (by decide), fun v z => ?_, fun _ => ?_⟩
          · rw [v2] at z
            cases z
          · exact val_use rfl (r3.write (o := .dK (putK ws kk u)) (x := .dK .live (putD kvs kk z)) ha hg hb (fun _ z => by cases z) ⟨hb, hg, _, upd_same, hr.put hz⟩) hz h3
        · exact fin_none h3
      · rw [v1] at h3
        simp only at h3
        split at h3
        · rename_i hlim
          refine ⟨ws, kk, hH, keyD_ok q2 hy3, by rw [← hlen]; exact Nat.lt_of_lt_of_le hlim (by decide), fun v z => ?_, fun z => ?_⟩
          · rw [v2] at z
            cases z
            exact val_use rfl r3 hrep h3
          · rw [v2] at z
            cases z
        · exact fin_none h3
    · exact fin_none h3
  · exact fin_none h3
theorem RepK.fsts {B : PySem.W.Frag} {b : Hp} {ρ : List Addr} {G : Hp} : ∀ {kvs : List (Key × D)} {ws : List (Key × V)}, RepK B b ρ G kvs ws → kvs.map (·.1) = ws.map (·.1)
  | [], ws, h => by
    have h : ws = [] := h
    subst h
    rfl
  | (k, d) :: r, ws, h => by
    obtain ⟨v, s, rfl, _, h⟩ := h
    simp [h.fsts]
theorem vals_rep {K : PySem.W.Frag} {B : Hp} {ρ : List Addr} {G : Hp} {kvs : List (Key × D)} {ws : List (Key × V)} (hr : RepK K B ρ G kvs ws) : ∀ {l : List (Key × D)} {ds : List D}, omap (fun kv => valD kvs kv.1) l = some ds → ∃ vs, Reps K B ρ G ds vs ∧ vs.length = l.length ∧ ∀ (i : Nat) (k : Key), (l.map (·.1))[i]? = some k → ∃ v, valV ws k = some v ∧ vs[i]? = some v
  | [], ds, h => by
    cases h
    exact ⟨[], rfl, rfl, fun i k h => by simp at h⟩
  | x :: l, ds, h => by
    unfold omap at h
    rcases repK_val (k := x.1) hr with ⟨v1, _⟩ | ⟨d, v, v1, v2, hd⟩
    · rw [v1] at h
      cases h
    · rw [v1] at h
      cases e : omap (fun kv => valD kvs kv.1) l with
      | none =>
        rw [e] at h
        cases h
      | some ds' =>
        rw [e] at h
        cases h
        obtain ⟨vs, h1, h2, h3⟩ := vals_rep hr e
        refine ⟨v :: vs, ⟨v, vs, rfl, hd, h1⟩, by simp [h2], fun i k q => ?_⟩
        cases i with
        | zero =>
          cases q
          exact ⟨v, v2, rfl⟩
        | succ i => exact h3 i k (by simpa using q)
theorem tx_vals {lv : Bool} {i kx : Nat} {own : List Nat} (hi : i ∉ own) (hk : kx ∈ own) : ∀ σ H Q, TX K mg E (fVals lv i kx) σ H Q → tLockE (tLc (iKeys (tVar i)) (gName kx) tYes (tDGet (tVar i) (tVar kx)) own) σ H Q := by
  rintro σ H Q ⟨c, env, ρ, G, μ, hK, hm, r, eo, h⟩
  subst hK
  unfold fVals at h
  split at h
  · rename_i n e0
    obtain ⟨v, s0, a, rfl, ha⟩ := eo.2 i _ e0
    split at h
    · rename_i kvs e1
      obtain ⟨hb, hg, ws, hH, hr⟩ := r.cl n a _ ha e1
      split at h
      · rename_i ds e2
        split at h
        · rename_i hl
          obtain ⟨vs, hs, hlv, hat⟩ := vals_rep hr e2
          have hlen := hr.len
          have hf := hr.fsts
          refine ⟨a, .dK ws, hH, trivial, fun od => ⟨.ref a, s0, a, od, rfl, .inl ⟨ws, upd_same, fun D hD => ?_⟩⟩⟩
          have hDa : D ≠ a := fun z => by
            rw [z, upd_same] at hD
            cases hD
          have hDH : H D = none := by
            rw [upd_ne hDa] at hD
            exact hD
          refine ⟨fun j m H' => m = kvs.length - j ∧ j ≤ kvs.length ∧ H' = upd (upd H a (.frz od (.dK ws))) D (.lst (vs.take j)), ⟨_, rfl, Nat.zero_le _, rfl⟩, ?_⟩
          rintro j m H' ⟨rfl, hj, rfl⟩
          have hfa : ∀ o, upd (upd H a (.frz od (.dK ws))) D o a = some (.frz od (.dK ws)) := fun o => by rw [upd_ne (Ne.symm hDa), upd_same]
          by_cases z : j = kvs.length
          · subst z
            refine .inl ⟨⟨hfa _, by omega⟩, hfa _, ?_⟩
            have e3 : upd (upd (upd H a (.frz od (.dK ws))) D (.lst (vs.take kvs.length))) a (.dK ws) = upd H D (.lst vs) := by
              funext b
              by_cases b1 : b = a
              · subst b1
                rw [upd_same, upd_ne (Ne.symm hDa), hH]
              · by_cases b2 : b = D
                · subst b2
                  rw [upd_ne b1, upd_same, upd_same, List.take_of_length_le (by omega)]
                · rw [upd_ne b1, upd_ne b2, upd_ne b1, upd_ne b2]
            rw [e3]
            exact alloc_use rfl r hs hDH h
          · refine .inr ⟨⟨hfa _, by omega⟩, fun H3 => H3 = upd (upd H a (.frz od (.dK ws))) D (.lst (vs.take (j + 1))), fun H3 e => ⟨kvs.length - (j + 1), by omega, rfl, by omega, e⟩, ?_⟩
            rintro x H3 ⟨rfl, kk, v, q1, rfl⟩
            obtain ⟨v', w1, w2⟩ := hat j kk (by rw [hf, List.getElem?_map, q1]; rfl)
            have hkl : kx < (wipe σ own).length := by rw [wipe_length, ← eo.1]; exact hl.2
            refine ⟨?_, ?_⟩
            · rw [wipe_touch (is := [kx]) ⟨List.length_set, fun b hb => List.getElem?_set_ne fun e => hb (by rw [e]; exact List.mem_singleton_self _)⟩ (fun b hb => by rw [List.mem_singleton.mp hb]; exact hk), wipe_wipe]
            · unfold tYes
              simp only [if_true]
              refine ⟨.ref a, ?_, kV kk, List.getElem?_set_self hkl, a, v', rfl, .inl ⟨ws, kk, .inr ⟨od, hfa _⟩, rfl, w1.symm⟩, vs.take j, upd_same, ?_, ?_⟩
              · rw [List.getElem?_set_ne fun e => hi (by rw [← e]; exact hk), wipe_out hi]
                exact s0
              · rw [List.length_take]
                exact Nat.lt_of_le_of_lt (Nat.min_le_left _ _) (Nat.lt_of_lt_of_le (by omega : j < LIM) (by decide))
              · rw [upd_upd, List.take_succ, w2]
                rfl
        · exact fin_none h
      · exact fin_none h
    · exact fin_none h
  · exact fin_none h
end
end Lv
set_option Elab.async false
set_option linter.all false
set_option maxRecDepth 100000
set_option autoImplicit false
/-! objects of the text's own classes: fields, methods, making; calls in the caller's own store -/
namespace Lv
open PySem PySem.Spec PyProof.Rows L2
theorem Rel.other {c : Ct} {ρ : List Addr} {G H : Hp} {μ : Sto} {p : Addr} {o : HO} (r : Rel c ρ G μ H) (h : H p = none) (ht : ∀ vs, o ≠ .tup vs) : Rel c ρ G μ (upd H p o) := by
  refine ⟨r.gh.trans (same_upd h), r.bh.trans (same_upd h), r.ph.trans (same_upd h), fun a vs e => ?_, r.g0, r.nw, r.gp, r.ln, r.nd, fun n a x e1 e2 => ?_⟩
  · by_cases q : a = p
    · subst q
      rw [upd_same] at e
      exact absurd (Option.some.inj e) (ht vs)
    · rw [upd_ne q] at e
      exact r.tp _ _ e
  · exact (r.cl n a x e1 e2).mono (List.prefix_refl _) (Same.refl _) fun g0 b0 o' q => ⟨g0, by rw [upd_ne (ne_of_none q h)]; exact q⟩
theorem lookup_key {α : Type} {f : Str} {x : α} : ∀ {fs : List (Str × α)}, fs.lookup f = some x → f ∈ fs.map (·.1)
  | [], h => by cases h
  | (g, y) :: r, h => by
    rw [List.lookup_cons] at h
    rw [List.map_cons]
    cases e : f == g with
    | true =>
      rw [beq_iff_eq.mp e]
      exact List.mem_cons_self
    | false =>
      rw [e] at h
      exact List.mem_cons_of_mem _ (lookup_key h)
theorem lookup_out {α : Type} {f : Str} : ∀ {fs : List (Str × α)}, f ∉ fs.map (·.1) → fs.lookup f = none
  | [], _ => rfl
  | (g, y) :: r, h => by
    rw [List.map_cons] at h
    rw [List.lookup_cons, beq_eq_false_iff_ne.mpr fun e => h (by rw [e]; exact List.mem_cons_self)]
    exact lookup_out fun e => h (List.mem_cons_of_mem _ e)
theorem RepF.keys {K : PySem.W.Frag} {B : Hp} {ρ : List Addr} {G : Hp} : ∀ {ds : List (Str × D)} {vs : List (Str × V)}, RepF K B ρ G ds vs → vs.map (·.1) = ds.map (·.1)
  | [], _, h => by cases h; rfl
  | (k, d) :: ds, _, ⟨v, r, e1, _, h⟩ => by rw [e1, List.map_cons, List.map_cons, RepF.keys h]
/-- what an object is -/
theorem ins_ok {c : Ct} {ρ : List Addr} {G H : Hp} {μ : Sto} (r : Rel c ρ G μ H) {n : Nat} {cls : Str} {fs : List (Str × D)} {v : V} (e : μ[n]? = some (.ins cls fs)) (hv : Rep c.K c.B ρ G (.ref n) v) :
    ∃ a C dx ws, v = .ref a ∧ ρ[n]? = some a ∧ c.B a = none ∧ G a = none ∧ c.mg cls = some (.ref C) ∧ Cls c.K C ∧ (∀ f ∈ fs.map (·.1), NoAttr c.K C f) ∧ H a = some (.ins C dx ws) ∧ RepF c.K c.B ρ G fs ws := by
  obtain ⟨a, e1, h1⟩ := hv
  obtain ⟨hb, h0, C, dx, ws, q1, q2, q3, q4, q5⟩ := r.cl n a _ h1 e
  exact ⟨a, C, dx, ws, e1, h1, hb, h0, q1, q2, q3, q4, q5⟩
section
variable {K : PySem.W.Frag} {mg : Str → Option Value} {E : XK}
/-! ### e.f -/
def dAttr (f : Str) (d : D) (μ : Sto) : R D := match d with
  | .ref n => match μ[n]? with
    | some (.ins _ fs) => match fs.lookup f with
      | some x => ok x μ
      | none => none
    | _ => none
  | _ => none
theorem tx_attr {f : Str} {fa : FE} : ∀ σ H Q, TX K mg E (fun env μ => rb (fa env μ) (dAttr f)) σ H Q → tFld K (TX K mg E fa) f σ H Q := by
  rintro σ H Q ⟨c, env, ρ, G, μ, hK, hm, re, eo, h⟩
  subst hK
  refine tx_use rfl hm re eo h fun d v ρ1 G1 μ1 H1 p1 e1 r1 eo1 hv h1 => ?_
  unfold dAttr at h1
  split at h1
  · rename_i n
    split at h1
    · rename_i cls fs e2
      split at h1
      · rename_i x e3
        obtain ⟨a, C, dx, ws, e4, _, _, _, q1, q2, q3, q4, q5⟩ := ins_ok r1 e2 hv
        obtain ⟨u, w1, w2⟩ := q5.get e3
        exact ⟨a, C, dx, ws, u, e4, q4, q2, q3 f (lookup_key e3), w1, Fin.ok r1 h1 u w2⟩
      · exact fin_none h1
    · exact fin_none h1
  · exact fin_none h1
/-! ### o.f = v -/
def dPutF (cls f : Str) (o d : D) (μ : Sto) : R Unit := match o with
  | .ref n => match μ[n]? with
    | some (.ins c fs) => if (decide (c = cls) && decide (fs.length < 100)) = true then ok () (μ.set n (.ins c (fput f d fs))) else none
    | _ => none
  | _ => none
def sSetAt (cls f : Str) (fo fv : FE) : FS := fun env μ => rb (fv env μ) fun d μ1 => rb (fo env μ1) fun o μ2 => rb (dPutF cls f o d μ2) fun _ μ3 => ok (.nx env) μ3
theorem ts_setAt {cls f : Str} {fo fv : FE} (hn : ∃ C, mg cls = some (.ref C) ∧ NoAttr K C f) : ∀ Dn σ H, TSx K mg E (sSetAt cls f fo fv) Dn σ H → sFld K (TX K mg E fo) (TX K mg E fv) f Dn σ H := by
  rintro Dn σ H ⟨c, env, ρ, G, μ, hK, hm, re, eo, h⟩
  subst hK hm
  refine tx_use rfl rfl re eo h fun d v ρ1 G1 μ1 H1 p1 e1 r1 eo1 hv h1 => ?_
  refine tx_use rfl rfl r1 eo1 h1 fun o x ρ2 G2 μ2 H2 p2 e2 r2 eo2 hx h2 => ?_
  unfold dPutF at h2
  split at h2
  · rename_i n
    split at h2
    · rename_i cl fs e3
      split at h2
      · rename_i hc
        obtain ⟨c1, c2⟩ := Bool.and_eq_true_iff.mp hc
        have c1' := of_decide_eq_true c1
        subst c1'
        obtain ⟨a, C, dx, ws, e4, ha, hb, h0, q1, q2, q3, q4, q5⟩ := ins_ok r2 e3 hx
        obtain ⟨C', w1, w2⟩ := hn
        rw [q1] at w1
        cases w1
        refine ⟨a, C, dx, ws, e4, q4, q2, w2, by rw [← q5.length]; have := of_decide_eq_true c2; omega, ?_⟩
        have r3 : Rel c ρ2 G2 (μ2.set n (.ins cl (fput f d fs))) (upd H2 a (.ins C dx (putF f v ws))) := by
          refine r2.write ha h0 hb (fun _ z => by cases z) ⟨hb, h0, C, dx, _, q1, q2, fun g hg => ?_, upd_same, RepF.put (hv.mono p2 e2) q5⟩
          rcases fput_keys hg with z | z
          · rw [z]
            exact w2
          · exact q3 g z
        exact Fin.ok r3 h2 σ eo2
      · exact fin_none h2
    · exact fin_none h2
  · exact fin_none h2
end
/-! ### o.m(..) of any class -/
theorem ht_of {env : PySem.Env} {o : Expr} {name : Str} {apos pos : Pos} {args : List Expr} (hbase : attributeBase o name env (eval o env) = eval o env)
    (hfew : ((backTo pos (starEach args env)).all (fun x => !x.1) && (backToKw pos (keywordEach [] env)).all (fun x => x.1.isSome) && decide (args.length + ([] : List Keyword).length + (if ([] : List Keyword).isEmpty then 0 else 1) < 30)) = true)
    (hline : (apos.endLine == pos.line) = true) : eval (.Call (.Attribute o name apos) args [] pos) env = (do
      let ov ← eval o env
      standAt apos.atName
      let (f, first) ← holding [ov] (getMethod ov name (do return (← importBound o env).getD true))
      callWith pos f first (backTo pos (starEach args env)) (backToKw pos (keywordEach [] env))) := by
  rw [arm_eval_Call, hbase]
  have hform : methodCallForm (args.length + ([] : List Keyword).length) (backTo pos (starEach args env)) (backToKw pos (keywordEach [] env)) = true := hfew
  have hpos : methodCallPos true o env apos pos = pure pos := by unfold methodCallPos; simp [hline]
  unfold methodCall
  rw [hform]
  unfold calleeOf
  simp only [if_true]
  rw [hpos]
  rfl
def fnthS (Γ : List (Nat × Fn)) (f dn : Nat) (ds : List D) (μ : Sto) : R D := match Γ.lookup f with
  | some F => dCallS F dn ds μ
  | none => none
def fCallM (Γ : List (Nat × Fn)) (alts : List (Str × Nat)) (dn : Nat) (fx : FE) (fs : FEs) : FE := fun env μ => rb (fx env μ) fun d μ1 => match d with
  | .ref n => match μ1[n]? with
    | some (.ins cls _) => match alts.lookup cls with
      | some i => rb (fs env μ1) fun ds μ2 => fnthS Γ i dn (.ref n :: ds) μ2
      | none => none
    | _ => none
  | _ => none
def tMethP (X : Cx) (CX : CXT) (m : Str) (E : XK) (ta : TE) (t : TA) : TE := fun σ H Q => ta σ H fun x H1 => ∃ (a C dx : Addr) (fs : List (Str × V)) (k : Nat) (f : Addr) (fd : FuncData) (ps : List Str) (sp : Sp) (dvs : List V) (ds : List Value), x = .ref a ∧ H1 a = some (.ins C dx fs) ∧ Cls X.K C ∧ Meth X.K C m f ∧
  FnOk X.prog X.w X.K X.mg X.base CX k f fd ps sp ∧ Room k X.A ∧ Binds X.K fd ps ds ∧ Vals dvs ds ∧ fs.lookup m = none ∧ t σ H1 fun vs H2 => sp (x :: (vs ++ dvs)) H2 Q E
section
variable {X : Cx} {CX : CXT} {E : XK} {m : Str} {pos apos : Pos} {e o : Expr} {es : List Expr} {ta : TE} {t : TA}
theorem pe_methP {pl : Sem Bool} (he : PE X o ta) (hx : Passes CX X E) (ha : PA X (e :: es) t)
    (hst : starEach (e :: es) X.env = (false, eval e X.env) :: starEach es X.env) (hpl : (backTo pos (starEach es X.env)).any (·.1) = false)
    (ht : eval (.Call (.Attribute o m apos) (e :: es) [] pos) X.env = (do
      let ov ← eval o X.env
      standAt apos.atName
      let (f, first) ← holding [ov] (getMethod ov m pl)
      callWith pos f first (backTo pos (starEach (e :: es) X.env)) (backToKw pos (keywordEach [] X.env)))) :
    PE X (.Call (.Attribute o m apos) (e :: es) [] pos) (tMethP X CX m E ta t) := by
  refine ⟨fun pins s σ H Q I h => ?_⟩
  refine PySem.W.methodCall_KW (pl := pl) (thn (he.run pins s σ H _ I h) fun u s1 ⟨x, H1, I1, rx, a, C, dx, fs, k, f, fd, ps, sp, dvs, ds, ex, ea, c, hm, F, hr, hb, hd, l, q⟩ => ?_) ht
  subst ex
  obtain rfl : u = Value.ref a := rx
  refine getmeth_ok I1 ea c hm l ?_
  refine PySem.W.callWith_K (first := [.ref a]) (h₀ := X.base) I.ok.mod.kin hm.kp (thn (ha.run pos pins s1 σ H1 _ I1 q) fun us s2 ⟨vs, H2, I2, r, q2⟩ => ⟨I2.kIn, ?_⟩) hst hpl
  exact run_fn (us := .ref a :: us) (vs := .ref a :: vs) F hr hb hd hx I2 (.cons rfl r) q2
theorem pe_methP0 {pl : Sem Bool} (he : PE X o ta) (hx : Passes CX X E)
    (ht : eval (.Call (.Attribute o m apos) [] [] pos) X.env = (do
      let ov ← eval o X.env
      standAt apos.atName
      let (f, first) ← holding [ov] (getMethod ov m pl)
      callWith pos f first (backTo pos (starEach [] X.env)) (backToKw pos (keywordEach [] X.env)))) :
    PE X (.Call (.Attribute o m apos) [] [] pos) (tMethP X CX m E ta tNil) := by
  refine ⟨fun pins s σ H Q I h => ?_⟩
  refine PySem.W.methodCall_KW (pl := pl) (thn (he.run pins s σ H _ I h) fun u s1 ⟨x, H1, I1, rx, a, C, dx, fs, k, f, fd, ps, sp, dvs, ds, ex, ea, c, hm, F, hr, hb, hd, l, q⟩ => ?_) ht
  subst ex
  obtain rfl : u = Value.ref a := rx
  refine getmeth_ok I1 ea c hm l ?_
  exact PySem.W.callWith_K0 (first := [.ref a]) I1.kIn hm.kp (run_fn (us := [.ref a]) (vs := [.ref a]) F hr hb hd hx I1 (.cons rfl .nil) q)
/-- a method's facts at a class -/
def MtAt (P : Program) (w : World) (K : PySem.W.Frag) (mg : Str → Option Value) (base : Heap) (CX : CXT) (lv : Nat) (F : Fn) (cls : Str) : Prop := ∃ C f fd, mg cls = some (.ref C) ∧ Cls K C ∧ Meth K C F.name f ∧ (∀ j, j ≤ F.dn → Binds K fd F.ps (List.replicate j .none)) ∧ FnOk P w K mg base CX lv f fd F.ps (F.sp K mg)
/-- a class's __init__ -/
def MkAt (P : Program) (w : World) (K : PySem.W.Frag) (mg : Str → Option Value) (base : Heap) (CX : CXT) (lv : Nat) (F : Fn) (cls : Str) : Prop := ∃ C f fd l, mg cls = some (.ref C) ∧ Cls K C ∧ Mk K C f ∧ (∀ j, j ≤ F.dn → Binds K fd F.ps (List.replicate j .none)) ∧ FnOk P w K mg base CX l f fd F.ps (F.sp K mg) ∧ l + 1 ≤ lv ∧ (F.dn = 1 → F.ps.length = 2 → KBn K fd F.ps 1 (F.ps.drop 1) (fun us ws => us ++ ws) (fun vs zs => vs ++ zs))
theorem MtAt.mono {P : Program} {w : World} {K : PySem.W.Frag} {mg : Str → Option Value} {base : Heap} {CX : CXT} {lv lv' : Nat} {F : Fn} {cls : Str} (h : MtAt P w K mg base CX lv F cls) (q : lv ≤ lv') : MtAt P w K mg base CX lv' F cls := by
  obtain ⟨C, f, fd, a, b, c, d, e⟩ := h
  exact ⟨C, f, fd, a, b, c, d, e.mono q⟩
theorem MkAt.mono {P : Program} {w : World} {K : PySem.W.Frag} {mg : Str → Option Value} {base : Heap} {CX : CXT} {lv lv' : Nat} {F : Fn} {cls : Str} (h : MkAt P w K mg base CX lv F cls) (q : lv ≤ lv') : MkAt P w K mg base CX lv' F cls := by
  obtain ⟨C, f, fd, l, a, b, c, d, e, g, k⟩ := h
  exact ⟨C, f, fd, l, a, b, c, d, e, Nat.le_trans g q, k⟩
theorem vals_nons : ∀ n, Vals (List.replicate n .non) (List.replicate n .none)
  | 0 => .nil
  | n + 1 => .cons rfl (vals_nons n)
theorem tx_callM {W : Cx} {lv : Nat} {Γ : List (Nat × Fn)} {alts : List (Str × Nat)} {dn : Nat} {fx : FE} {fs : FEs} (hr : Room lv W.A) (hm : ∀ cls i, alts.lookup cls = some i → ∃ F, Γ.lookup i = some F ∧ F.name = m ∧ dn ≤ F.dn ∧ MtAt W.prog W.w W.K W.mg W.base CX lv F cls) :
    ∀ σ H Q, TX W.K W.mg E (fCallM Γ alts dn fx fs) σ H Q → tMethP W CX m E (TX W.K W.mg E fx) (TXs W.K W.mg E fs) σ H Q := by
  rintro σ H Q ⟨c, env, ρ, G, μ, hK, hmg, re, eo, h⟩
  refine tx_use hK hmg re eo h fun d v ρ1 G1 μ1 H1 p1 e1 r1 eo1 hv h1 => ?_
  split at h1
  · rename_i n
    split at h1
    · rename_i cls fds e2
      split at h1
      · rename_i i e3
        obtain ⟨F, w1, w2, w3, C', f, fd, y1, y2, y3, y4, y5⟩ := hm cls i e3
        obtain ⟨a, C0, dx, ws, e4, ha, hb, h0, q1, q2, q3, q4, q5⟩ := ins_ok r1 e2 (by rw [hK]; exact hv)
        rw [hmg, y1] at q1
        cases q1
        subst w2
        refine ⟨a, C', dx, ws, lv, f, fd, F.ps, F.sp W.K W.mg, List.replicate dn .non, List.replicate dn .none, e4, q4, y2, y3, y5, hr, y4 dn w3, vals_nons dn, ?_, ?_⟩
        · refine lookup_out fun z => ?_
          rw [q5.keys] at z
          have n1 := q3 _ z
          have n2 := y3.at_
          rw [hK] at n1
          rw [show PySem.W.findIn W.K (.ref C') F.name = some none from n1] at n2
          cases n2
        · subst e4
          refine txs_use hK hmg r1 eo1 h1 fun ds vs ρ2 G2 μ2 H2 p2 e5 r2 eo2 hvs h2 => ?_
          have h2' : Fin c E ρ2 G2 (dCallS F dn (.ref n :: ds) μ2) fun d ρ' G' _ H' => ∀ v, Rep W.K c.B ρ' G' d v → Q v H' := by
            unfold fnthS at h2
            rw [w1] at h2
            exact h2
          exact callS_use (vs := V.ref a :: vs) hK hmg r2 (.cons (hv.mono p2 e5) hvs) h2'
      · exact fin_none h1
    · exact fin_none h1
  · exact fin_none h1
end
/-! ### C(..) -/
/-- what is raised is as the maker's own -/
def fMake (Γ : List (Nat × Fn)) (cls : Str) (i dn : Nat) (fs : FEs) : FE := fun env μ => rb (fs env μ) fun ds μ1 => rb (fnthS Γ i dn (.ref μ1.length :: ds) (μ1 ++ [.ins cls []])) fun r μ2 => match r with
  | .non => ok (.ref μ1.length) μ2
  | _ => none
section
variable {K : PySem.W.Frag} {mg : Str → Option Value} {E : XK}
theorem Rel.newIns {c : Ct} {ρ : List Addr} {G H : Hp} {μ : Sto} {x dx C : Addr} {cls : Str} (r : Rel c ρ G μ H) (hx : H x = none) (hd : H dx = none) (hne : dx ≠ x) (hc : c.mg cls = some (.ref C)) (hC : Cls c.K C) : Rel c (ρ ++ [x]) G (μ ++ [.ins cls []]) (upd (upd H dx (.own x)) x (.ins C dx [])) := by
  have r1 : Rel c ρ G μ (upd H dx (.own x)) := r.other hd (fun _ z => by cases z)
  have hx1 : upd H dx (.own x) x = none := by rw [upd_ne (Ne.symm hne)]; exact hx
  exact r1.cell hx1 (fun _ z => by cases z) ⟨r1.none_b hx1, r1.none_g hx1, C, dx, [], hc, hC, fun _ z => by simp at z, upd_same, rfl⟩
theorem tx_make {Γ : List (Nat × Fn)} {cls : Str} {i dn : Nat} {fs : FEs} {F : Fn} {C : Addr} (hF : Γ.lookup i = some F) (hc : mg cls = some (.ref C)) (hC : Cls K C) : ∀ σ H Q, TX K mg E (fMake Γ cls i dn fs) σ H Q → tMake C (F.sp K mg) (List.replicate dn .non) E (TXs K mg E fs) σ H Q := by
  rintro σ H Q ⟨c, env, ρ, G, μ, hK, hm, re, eo, h⟩
  subst hK hm
  refine txs_use rfl rfl re eo h fun ds vs ρ1 G1 μ1 H1 p1 e1 r1 eo1 hvs h1 => ?_
  intro x dx hx hd hne
  have r2 := r1.newIns hx hd hne hc hC
  have hx2 : (ρ1 ++ [x])[μ1.length]? = some x := by
    rw [List.getElem?_append_right (by rw [r1.ln]; exact Nat.le_refl _), r1.ln, Nat.sub_self]
    rfl
  have hr : Rep c.K c.B (ρ1 ++ [x]) G1 (.ref μ1.length) (.ref x) := ⟨x, rfl, hx2⟩
  refine callS_use (vs := V.ref x :: vs) rfl rfl r2 (.cons hr (hvs.mono (List.prefix_append _ _) (Same.refl _))) ?_
  have h2 : Fin c E (ρ1 ++ [x]) G1 (rb (dCallS F dn (.ref μ1.length :: ds) (μ1 ++ [.ins cls []])) fun r μ2 => match r with
      | .non => ok (D.ref μ1.length) μ2
      | _ => none) fun d ρ' G' _ H' => ∀ v, Rep c.K c.B ρ' G' d v → Q v H' := by
    unfold fnthS at h1
    rw [hF] at h1
    exact h1.up (List.prefix_append _ _) (Same.refl _)
  refine h2.bind.imp fun d ρ3 G3 μ3 H3 p3 e3 r3 q v hv => ?_
  split at q
  · cases hv
    exact ⟨rfl, Fin.ok r3 q _ ⟨x, rfl, pre_get p3 hx2⟩⟩
  · exact fin_none q
/-- C(n=v) -/
theorem TX.toM {f : FE} {σ : L2.St} {H : Hp} {Q Q' : VK} (h : TX K mg E f σ H Q) (q : ∀ v H', Q v H' → Q' v H') : TX K mg E f σ H Q' := by
  obtain ⟨c, env, ρ, G, μ, hK, hm, re, eo, z⟩ := h
  exact ⟨c, env, ρ, G, μ, hK, hm, re, eo, z.imp fun d ρ' G' μ' H' _ _ _ w v hv => q v H' (w v hv)⟩
theorem tx_makeK {Γ : List (Nat × Fn)} {cls : Str} {i : Nat} {fy : FE} {F : Fn} {C : Addr} (hF : Γ.lookup i = some F) (hc : mg cls = some (.ref C)) (hC : Cls K C) : ∀ σ H Q, TX K mg E (fMake Γ cls i 0 (fCons fy fNil)) σ H Q → tMakeK C 0 1 (F.sp K mg) (fun vs zs => vs ++ zs) E tNil (tCons (TX K mg E fy) tNil) σ H Q := by
  intro σ H Q h
  have h1 := tx_make hF hc hC σ H Q h
  have h2 := txs_cons σ H _ h1
  have h3 : TX K mg E fy σ H fun y H1 => TXs K mg E fNil σ H1 fun vs H2 => ∀ x dx, H2 x = none → H2 dx = none → dx ≠ x → F.sp K mg (.ref x :: ((y :: vs) ++ List.replicate 0 .non)) (upd (upd H2 dx (.own x)) x (.ins C dx [])) (fun v H3 => v = .non ∧ Q (.ref x) H3) E := h2
  show TX K mg E fy σ H fun y H1 => ([] : List V).length = 0 ∧ ([y] : List V).length = 1 ∧ ∀ x dx, H1 x = none → H1 dx = none → dx ≠ x → F.sp K mg [.ref x, y] (upd (upd H1 dx (.own x)) x (.ins C dx [])) (fun v H3 => v = .non ∧ Q (.ref x) H3) E
  exact h3.toM fun y H1 z => ⟨rfl, rfl, txs_nil σ H1 _ z⟩
/-- C() where there is no __init__ but object's -/
structure Mk0 (K : PySem.W.Frag) (C : Addr) : Prop where
  makes : PySem.W.makesIn K C = true
  init : PySem.W.findIn K (.ref C) "__init__" = some (some (.builtin "object.__init__"))
  kp : PySem.W.keepIn K (.ref C) = true
def tMake0 (C : Addr) : TE := fun _ H Q => ∀ x dx, H x = none → H dx = none → dx ≠ x → Q (.ref x) (upd (upd H dx (.own x)) x (.ins C dx []))
theorem pe_new0 {X : Cx} {C : Addr} {x : Str} {p pos : Pos} (M : Mk0 X.K C) (hg : Gl X x) (hm : X.mg x = some (.ref C)) (hdb : (x == ("__debug__" : Str)) = false) : PE X (.Call (.Name x p) [] [] pos) (tMake0 C) := by
  refine ⟨fun pins s σ H Q I h => ?_⟩
  refine wpAny_Call_Name_kw (ld_glob I hg hm ?_ hdb)
  refine PySem.W.callWith_K0 I.kIn M.kp ?_
  have hq := h (s.heap.objs.size + 1) s.heap.objs.size (I.hok.fresh (Nat.le_succ _)) (I.hok.fresh (Nat.le_refl _)) (Nat.ne_of_lt (Nat.lt_succ_self _))
  have I2 := Inv.made (C := C) I
  refine wpAny_call (make_map0 I.kIn M.makes M.init (fun self => PySem.W.Looks.of_pure (PySem.W.oi_bind self)) ?_)
  have Y := PySem.W.makes_of (M := model X.prog X.w) I.kIn M.makes
  have e2 : ((s.heap.push PySem.W.emptyDict).push (PySem.W.instObj C s.heap.objs.size)).get? (s.heap.objs.size + 1) = some (PySem.W.instObj C s.heap.objs.size) := by
    have := Heap.get?_push_size (s.heap.push PySem.W.emptyDict) (o := PySem.W.instObj C s.heap.objs.size) rfl
    rwa [Heap.size_push] at this
  have t1 : PySem.W.Looks (model X.prog X.w) ((s.heap.push PySem.W.emptyDict).push (PySem.W.instObj C s.heap.objs.size)) (typeOf (.ref (s.heap.objs.size + 1))) (.ref C) := (PySem.W.Looks.ld e2).andThen .now
  have t2 : PySem.W.Looks (model X.prog X.w) ((s.heap.push PySem.W.emptyDict).push (PySem.W.instObj C s.heap.objs.size)) (isInstance (.ref (s.heap.objs.size + 1)) (.type "object")) true := t1.andThen (Y.top.keeps fun b o e => Heap.get?_push_of_some _ (Heap.get?_push_of_some _ e))
  refine codeAny_call_builtin PySem.W.oi_plain PySem.W.entry_oi (@PySem.W.check_slot (model X.prog X.w) _ _ _ "object.__init__" "object" "__init__" (.ref (s.heap.objs.size + 1)) [] [] _ PySem.W.oi_kind PySem.W.oi_split t2 (PySem.W.oi_args (.ref (s.heap.objs.size + 1))) ?_)
  rw [PySem.W.oi_run]
  exact wpAny_pure (And.intro rfl ⟨V.ref (s.heap.objs.size + 1), _, I2, rfl, hq⟩)
def fMake0 (cls : Str) : FE := fun _ μ => ok (.ref μ.length) (μ ++ [.ins cls []])
theorem tx_make0 {cls : Str} {C : Addr} (hc : mg cls = some (.ref C)) (hC : Cls K C) : ∀ σ H Q, TX K mg E (fMake0 cls) σ H Q → tMake0 C σ H Q := by
  rintro σ H Q ⟨c, env, ρ, G, μ, hK, hm, re, eo, h⟩
  subst hK hm
  intro x dx hx hd hne
  have r2 := re.newIns hx hd hne hc hC
  refine Fin.ok_at (List.prefix_append _ _) (Same.refl _) r2 h _ ⟨x, rfl, ?_⟩
  rw [List.getElem?_append_right (by rw [re.ln]; exact Nat.le_refl _), re.ln, Nat.sub_self]
  rfl
/-! ### isinstance(o, C) of own classes -/
structure Ob where
  c0 : List Str
  fl : List (Str × Str)
  ic : List Str
  sub : List (Str × Str)
  prd : List (Str × List Str)
  xc : List (Str × List Str)
def dIsC (ob : Ob) (cls : Str) (d : D) (μ : Sto) : R D := match d with
  | .ref n => match μ[n]? with
    | some (.ins c _) => if (decide (c ∈ ob.ic) && decide (cls ∈ ob.ic)) = true then ok (.bl (decide ((c, cls) ∈ ob.sub))) μ else none
    | _ => none
  | _ => none
structure IcOk (K : PySem.W.Frag) (mg : Str → Option Value) (ob : Ob) (c : Str) : Prop where
  ex : ∃ C, mg c = some (.ref C) ∧ PySem.W.findIn K (.ref C) "__class__" = some (some (.builtin "object.__class__")) ∧ PySem.W.specialIn K (.builtin "object.__class__") "__get__" = some (some (.builtin "getset_descriptor.__get__")) ∧ PySem.W.takesIn K (.builtin "object.__class__") = some true ∧
    PySem.W.mroIn K C (.type "object") = some true ∧ ∀ d ∈ ob.ic, ∃ D, mg d = some (.ref D) ∧ PySem.W.kitOne K (.ref C) (.ref D) = some (decide ((c, d) ∈ ob.sub))
structure ObOk (K : PySem.W.Frag) (mg : Str → Option Value) (ob : Ob) : Prop where
  c0 : ∀ c ∈ ob.c0, ∃ C, mg c = some (.ref C) ∧ Cls K C ∧ Mk0 K C
  fl : ∀ c f, (c, f) ∈ ob.fl → ∃ C, mg c = some (.ref C) ∧ NoAttr K C f
  ic : ∀ c ∈ ob.ic, IcOk K mg ob c
theorem tx_isC {ob : Ob} {cls : Str} {C : Addr} {fa : FE} (ho : ObOk K mg ob) (hc : mg cls = some (.ref C)) : ∀ σ H Q, TX K mg E (fun env μ => rb (fa env μ) (dIsC ob cls)) σ H Q → tCB (rIsi K) (tCons (TX K mg E fa) (tCons (tC (.ref C)) tNil)) σ H Q := by
  rintro σ H Q ⟨c, env, ρ, G, μ, hK, hm, re, eo, h⟩
  subst hK hm
  refine tx_use rfl rfl re eo h fun d v ρ1 G1 μ1 H1 p1 e1 r1 eo1 hv h1 => ?_
  unfold dIsC at h1
  split at h1
  · rename_i n
    split at h1
    · rename_i cl fs e2
      split at h1
      · rename_i hh
        obtain ⟨c1, c2⟩ := Bool.and_eq_true_iff.mp hh
        obtain ⟨C0, y1, y2, y3, y4, y5, y6⟩ := (ho.ic cl (of_decide_eq_true c1)).ex
        obtain ⟨D0, z1, z2⟩ := y6 cls (of_decide_eq_true c2)
        rw [hc] at z1
        cases z1
        obtain ⟨a, C1, dx, ws, e4, ha, hb, h0, q1, q2, q3, q4, q5⟩ := ins_ok r1 e2 hv
        rw [y1] at q1
        cases q1
        subst e4
        exact ⟨.ref a, .ref C, .ref C0, .ref C, _, rfl, .own C, .base (.ins q4 q2 y2 y3 y4 y5), z2, Fin.ok r1 h1 _ rfl⟩
      · exact fin_none h1
    · exact fin_none h1
  · exact fin_none h1
end
end Lv
set_option Elab.async false
set_option linter.all false
set_option maxRecDepth 100000
set_option autoImplicit false
/-! texts: methods, signs, x or y -/
namespace Lv
open PySem PySem.Spec PyProof.Rows L2
inductive SMth where
  | split | join | upper | starts
deriving DecidableEq
def SMth.nm : SMth → Str
  | .split => "split" | .join => "join" | .upper => "upper" | .starts => "startswith"
theorem reps_strs {K : PySem.W.Frag} {B : Hp} {ρ : List Addr} {G : Hp} : ∀ (ns : List Str), Reps K B ρ G (ns.map D.str) (ns.map V.str)
  | [] => rfl
  | n :: ns => .cons rfl (reps_strs ns)
def dSm0 (m : SMth) (d : D) (μ : Sto) : R D := match m, d with
  | .upper, .str a => if a.length ≤ LIM then ok (.str (Txt.upper a)) μ else none
  | _, _ => none
def dSm1 (lv : Bool) (m : SMth) (d e : D) (μ : Sto) : R D := match m, d, e with
  | .split, .str a, .str b => if (decide (0 < b.length) && decide (a.length ≤ LIM)) = true then alloc lv ((Txt.split a b).map D.str) μ else none
  | .starts, .str a, .str b => ok (.bl (Txt.startswith a b)) μ
  | .join, .str a, e => match (seeL μ e).bind strsD with
    | some ys => if (ys.map (·.length)).sum + ys.length * a.length ≤ LIM then ok (.str (Txt.join a ys)) μ else none
    | none => none
  | _, _, _ => none
def fSm0 (m : SMth) (fx : FE) : FE := fun env μ => rb (fx env μ) (dSm0 m)
def isStr : D → Bool
  | .str _ => true
  | _ => false
def fSm1 (lv : Bool) (m : SMth) (fx fy : FE) : FE := fun env μ => rb (fx env μ) fun d μ1 => if isStr d = true then rb (fy env μ1) fun e μ2 => dSm1 lv m d e μ2 else none
def SMth.id : SMth → String
  | .split => "str.split" | .join => "str.join" | .upper => "str.upper" | .starts => "str.startswith"
theorem SMth.slot (m : SMth) : Slot "str" m.nm m.id := by
  cases m with
  | split => exact PySem.F.slot_str_split
  | join => exact PySem.F.slot_str_join
  | upper => exact PySem.F.slot_str_upper
  | starts => exact PySem.F.slot_str_startswith
theorem SMth.ty (m : SMth) : typeOf (.builtin m.id) = pure (.type "method_descriptor") := by
  cases m with
  | split => exact PySem.F.type_str_split
  | join => exact PySem.F.type_str_join
  | upper => exact PySem.F.type_str_upper
  | starts => exact PySem.F.type_str_startswith
def SMth.r (K : PySem.W.Frag) : SMth → V → List V → Hp → VK → Prop
  | .split => fun x xs H Q => ∃ a b, x = .str a ∧ xs = [.str b] ∧ (b.length == 0) = false ∧ a.length + 2 ≤ sizeLine ∧ rNewStrs (Txt.split a b) H Q
  | .join => fun x xs H Q => ∃ a p, ∃ ys : List Str, x = .str a ∧ xs = [.ref p] ∧ (SqL K H p (ys.map V.str) ∨ SqT K H p (ys.map V.str)) ∧ (ys.map (·.length)).sum + ys.length * a.length ≤ 16777216 ∧ Q (.str (Txt.join a ys)) H
  | .upper => fun x xs H Q => ∃ a, x = .str a ∧ xs = [] ∧ a.length ≤ 5592405 ∧ Q (.str (Txt.upper a)) H
  | .starts => fun x xs H Q => ∃ a b, x = .str a ∧ xs = [.str b] ∧ Q (.bl (Txt.startswith a b)) H
theorem SMth.mt {X : Cx} (m : SMth) : MtR X m.id (m.r X.K) := by
  cases m with
  | split => exact mt_split
  | join => exact mt_join
  | upper => exact mt_upper
  | starts => exact mt_startswith
section
variable {K : PySem.W.Frag} {mg : Str → Option Value} {E : XK}
theorem tx_sm0 {m : SMth} {fx : FE} : ∀ σ H Q, TX K mg E (fSm0 m fx) σ H Q → tM0 (m.r K) (TX K mg E fx) σ H Q := by
  rintro σ H Q ⟨c, env, ρ, G, μ, hK, hm, re, eo, h⟩
  subst hK
  refine tx_use rfl hm re eo h fun d v ρ1 G1 μ1 H1 p1 e1 r1 eo1 hv h1 => ?_
  unfold dSm0 at h1
  split at h1
  · split at h1
    · rename_i a hl
      cases hv
      exact ⟨⟨_, rfl⟩, a, rfl, rfl, Nat.le_trans hl (by decide), val_use (d := .str _) (v := .str _) rfl r1 rfl h1⟩
    · exact fin_none h1
  · exact fin_none h1
theorem tx_sm1 {lv : Bool} {m : SMth} {fx fy : FE} : ∀ σ H Q, TX K mg E (fSm1 lv m fx fy) σ H Q → tM1 (m.r K) (TX K mg E fx) (TX K mg E fy) σ H Q := by
  rintro σ H Q ⟨c, env, ρ, G, μ, hK, hm, re, eo, h⟩
  subst hK
  refine tx_use rfl hm re eo h fun d v ρ1 G1 μ1 H1 p1 e1 r1 eo1 hv h1 => ?_
  split at h1
  · rename_i hs
    cases d with
    | str a =>
      cases hv
      refine ⟨⟨_, rfl⟩, tx_use rfl hm r1 eo1 h1 fun e u ρ2 G2 μ2 H2 p2 e2 r2 eo2 hu h2 => ?_⟩
      cases m with
      | split =>
        cases e with
        | str b =>
          have h3 : Fin c E ρ2 G2 (if (decide (0 < b.length) && decide (a.length ≤ LIM)) = true then alloc lv ((Txt.split a b).map D.str) μ2 else none) fun d ρ' G' _ H' => ∀ v, Rep c.K c.B ρ' G' d v → Q v H' := h2
          split at h3
          · rename_i hl
            rw [Bool.and_eq_true, decide_eq_true_eq, decide_eq_true_eq] at hl
            cases hu
            refine ⟨_, _, rfl, rfl, ?_, ?_, fun p hp => alloc_use rfl r2 (reps_strs _) hp h3⟩
            · exact beq_eq_false_iff_ne.mpr (by omega)
            · have h4 : LIM + 2 ≤ sizeLine := by decide
              omega
          · exact fin_none h3
        | _ => exact fin_none h2
      | starts =>
        cases e with
        | str b =>
          cases hu
          exact ⟨_, _, rfl, rfl, val_use (d := .bl _) (v := .bl _) rfl r2 rfl h2⟩
        | _ => exact fin_none h2
      | upper => cases e <;> exact fin_none h2
      | join =>
        have h3 : Fin c E ρ2 G2 (match (seeL μ2 e).bind strsD with
          | some ys => if (ys.map (·.length)).sum + ys.length * a.length ≤ LIM then ok (.str (Txt.join a ys)) μ2 else none
          | none => none) fun d ρ' G' _ H' => ∀ v, Rep c.K c.B ρ' G' d v → Q v H' := by
          cases e <;> exact h2
        cases e5 : seeL μ2 e with
        | none =>
          rw [e5] at h3
          exact fin_none h3
        | some xs =>
          rw [e5] at h3
          cases e4 : strsD xs with
          | none =>
            simp only [Option.bind_some, e4] at h3
            exact fin_none h3
          | some ys =>
            simp only [Option.bind_some, e4] at h3
            split at h3
            · rename_i hl
              have e6 := strs_eq e4
              subst e6
              obtain ⟨p, vs, rfl, q1, q2⟩ := seeL_ok r2 e5 hu
              rw [rep_strs q2] at q1
              exact ⟨_, p, ys, rfl, rfl, .inl q1, Nat.le_trans hl (by decide), val_use (d := .str _) (v := .str _) rfl r2 rfl h3⟩
            · exact fin_none h3
    | _ => cases hs
  · exact fin_none h1
/-! ### a sign in a text -/
def rInT (neg : Bool) : R2 := fun x y H Q => ∃ (c : Nat) (z : Str), x = .str ⟨#[c]⟩ ∧ y = .str z ∧ Q (.bl (if neg then !decide (c ∈ z.cps.toList) else decide (c ∈ z.cps.toList))) H
theorem op_inT {X : Cx} (neg : Bool) : OpR X (compareOp (if neg = true then .NotIn else .In)) (rInT neg) := by
  cases neg with
  | false => exact op_inS
  | true => exact op_notInS
def dInT (neg : Bool) (d e : D) (μ : Sto) : R D := match d, e with
  | .str x, .str z => match x.cps.toList with
    | [c] => ok (.bl (if neg then !decide (c ∈ z.cps.toList) else decide (c ∈ z.cps.toList))) μ
    | _ => none
  | _, _ => none
theorem inT_ok (neg : Bool) : OpD K E (rInT neg) (dInT neg) := by
  intro c ρ G H μ d e x y Q hK r hx hy h
  unfold dInT at h
  split at h
  · rename_i x0 z
    split at h
    · rename_i cc e1
      cases hx
      cases hy
      have : x0 = ⟨#[cc]⟩ := by
        obtain ⟨cp⟩ := x0
        have e2 : cp.toList = [cc] := e1
        rw [show cp = #[cc] by rw [← Array.toArray_toList (xs := cp), e2]]
      subst this
      exact ⟨cc, z, rfl, rfl, val_use (d := .bl _) (v := .bl _) hK r rfl h⟩
    · exact fin_none h
  · exact fin_none h
/-! ### x or y, of texts -/
def fOrV (s : Str) (fx : FE) : FE := fun env μ => rb (fx env μ) fun d μ1 => match d with
  | .str z => if z.length ≤ LIM then (if z.length = 0 then ok (.str s) μ1 else ok d μ1) else none
  | _ => none
theorem tx_orV {fx : FE} {s : Str} {u : TE} (hu : ∀ σ H Q, Q (.str s) H → u σ H Q) : ∀ σ H Q, TX K mg E (fOrV s fx) σ H Q → tOrT K (TX K mg E fx) u σ H Q := by
  rintro σ H Q ⟨c, env, ρ, G, μ, hK, hm, re, eo, h⟩
  subst hK
  refine tx_use rfl hm re eo h fun d v ρ1 G1 μ1 H1 p1 e1 r1 eo1 hv h1 => ?_
  split at h1
  · rename_i z
    cases hv
    split at h1
    · rename_i hl
      by_cases hz : z.length = 0
      · rw [if_pos hz] at h1
        exact ⟨false, ⟨lim_size hl, by simp [hz]⟩, hu _ _ _ (val_use (d := .str _) (v := .str _) rfl r1 rfl h1)⟩
      · rw [if_neg hz] at h1
        exact ⟨true, ⟨lim_size hl, by simp [hz]⟩, val_use (d := .str _) (v := .str _) rfl r1 rfl h1⟩
    · exact fin_none h1
  · exact fin_none h1
theorem txb_orV {fx : FE} {s : Str} {u : TT} : ∀ σ H Q, TXb K mg E (fOrV s fx) σ H Q → tOr (TXb K mg E fx) u σ H Q := by
  rintro σ H Q ⟨c, env, ρ, G, μ, hK, hm, re, eo, h⟩
  refine ⟨c, env, ρ, G, μ, hK, hm, re, eo, h.bind.imp fun d ρ1 G1 μ1 H1 p1 e1 r1 q => ?_⟩
  exfalso
  split at q
  · split at q
    · split at q
      · obtain ⟨b, e, _⟩ := Fin.ok r1 q
        cases e
      · obtain ⟨b, e, _⟩ := Fin.ok r1 q
        cases e
    · exact q.elim
  · exact q.elim
/-! ### for sign in text -/
def signs (z : Str) : List D := z.cps.toList.map fun c => .str ⟨#[c]⟩
def dSrcS (d : D) (μ : Sto) : R Sr := match d with
  | .str z => if z.length ≤ LIM then ok (.fix (signs z)) μ else none
  | _ => none
theorem sr_signs {c : Ct} {ρ0 : List Addr} {G0 : Hp} {z : Str} : SrOk c (.fix (signs z)) (Its z) ρ0 G0 := by
  intro c' ρ G μ H hK hB hL p e r i o ho
  cases ho
  by_cases hi : i < z.cps.size
  · have e1 : (signs z)[i]? = some (.str ⟨#[z.cps[i]]⟩) := by
      unfold signs
      rw [List.getElem?_map, Array.getElem?_toList, Array.getElem?_eq_getElem hi]
      rfl
    rw [e1]
    refine ⟨hi, fun x H' y => ?_⟩
    obtain ⟨rfl, c, e2, rfl⟩ := y
    rw [Array.getElem?_eq_getElem hi] at e2
    cases e2
    exact ⟨G, Same.refl _, r, rfl⟩
  · have e1 : (signs z)[i]? = none := by
      refine List.getElem?_eq_none_iff.mpr ?_
      unfold signs
      rw [List.length_map, Array.length_toList]
      omega
    rw [e1]
    show z.cps.size ≤ i
    omega
theorem txi_str {f : FE} : ∀ σ H R, TXi K mg E (fun env μ => rb (f env μ) dSrcS) σ H R → iStr (TX K mg E f) σ H R := by
  rintro σ H R ⟨c, env, ρ, G, μ, hK, hm, re, eo, h⟩
  refine tx_use hK hm re eo h fun d v ρ1 G1 μ1 H1 p1 e1 r1 eo1 hv h1 => ?_
  unfold dSrcS at h1
  split at h1
  · split at h1
    · rename_i z hl
      cases hv
      exact ⟨z, rfl, Fin.ok r1 h1 _ sr_signs⟩
    · exact fin_none h1
  · exact fin_none h1
end
end Lv
set_option Elab.async false
set_option linter.all false
set_option maxRecDepth 100000
set_option autoImplicit false
/-! dicts told by a display with texts as keys; list(d) of a dict with tuples as keys -/
namespace Lv
open PySem PySem.Spec PyProof.Rows L2
def dMerge (kvs more : List (Key × D)) : List (Key × D) := more.foldl (fun acc kv => putD acc kv.1 kv.2) kvs
def fDisp (ks : List Str) (fs : FEs) : FE := fun env μ => rb (fs env (μ ++ [.dK .live []])) fun ds μ1 => match μ1[μ.length]? with
  | some (.dK .live []) => if ds.length = ks.length ∧ ks.length ≤ 15 then ok (.ref μ.length) (μ1.set μ.length (.dK .live (dMerge [] ((ks.map Sum.inr).zip ds)))) else none
  | _ => none
section
variable {K : PySem.W.Frag} {mg : Str → Option Value} {E : XK} {B : Hp} {ρ : List Addr} {G : Hp}
theorem RepK.merge : ∀ {more : List (Key × D)} {ms : List (Key × V)} {kvs : List (Key × D)} {ws : List (Key × V)}, RepK K B ρ G more ms → RepK K B ρ G kvs ws → RepK K B ρ G (dMerge kvs more) (mergeK ws ms)
  | [], _, _, _, h, q => by
    cases h
    exact q
  | (k, d) :: r, _, kvs, ws, ⟨v, s, e, h1, h2⟩, q => by
    subst e
    show RepK K B ρ G (dMerge (putD kvs k d) r) (mergeK (putK ws k v) s)
    exact RepK.merge h2 (q.put h1)
theorem RepK.zip : ∀ {ks : List Key} {ds : List D} {vs : List V}, Reps K B ρ G ds vs → RepK K B ρ G (ks.zip ds) (ks.zip vs)
  | [], _, _, _ => rfl
  | k :: ks, [], _, h => by
    cases h
    rfl
  | k :: ks, d :: ds, _, ⟨v, s, e, h1, h2⟩ => by
    subst e
    exact ⟨v, _, rfl, h1, RepK.zip h2⟩
theorem tx_disp {ks : List Str} {fs : FEs} : ∀ σ H Q, TX K mg E (fDisp ks fs) σ H Q → ∀ p, H p = none → TXs K mg E fs σ (upd H p (.dK [])) fun vs H2 => H2 p = some (.dK []) ∧ vs.length = ks.length ∧ ks.length ≤ 15 ∧ Q (.ref p) (upd H2 p (.dK (mergeK [] ((ks.map Sum.inr).zip vs)))) := by
  rintro σ H Q ⟨c, env, ρ, G, μ, hK, hm, r, eo, h⟩ p hp
  subst hK hm
  have r1 : Rel c (ρ ++ [p]) G (μ ++ [.dK .live []]) (upd H p (.dK [])) := r.cell (o := .dK []) (x := .dK .live []) hp (fun _ z => by cases z) ⟨r.none_b hp, r.none_g hp, [], upd_same, rfl⟩
  have hn : (ρ ++ [p])[μ.length]? = some p := by
    rw [List.getElem?_append_right (by rw [r.ln]; exact Nat.le_refl _), r.ln, Nat.sub_self]
    rfl
  have h1 := h.up (List.prefix_append ρ [p]) (Same.refl G)
  unfold fDisp at h1
  refine ⟨c, env, ρ ++ [p], G, μ ++ [.dK .live []], rfl, rfl, r1, eo.up (List.prefix_append ρ [p]) (Same.refl G), h1.bind.imp fun ds ρ2 G2 μ2 H2 p2 e2 r2 q vs hv => ?_⟩
  have hn2 := pre_get p2 hn
  split at q
  · rename_i e0
    obtain ⟨hb, hg, ws, hH, hr⟩ := r2.cl μ.length p _ hn2 e0
    have : ws = [] := hr
    subst this
    split at q
    · rename_i hc
      have hl : vs.length = ks.length := by rw [← hv.length]; exact hc.1
      refine ⟨hH, hl, hc.2, ?_⟩
      have r3 : Rel c ρ2 G2 (μ2.set μ.length (.dK .live (dMerge [] ((ks.map Sum.inr).zip ds)))) (upd H2 p (.dK (mergeK [] ((ks.map Sum.inr).zip vs)))) :=
        r2.write hn2 hg hb (fun _ z => by cases z) ⟨hb, hg, _, upd_same, RepK.merge (RepK.zip hv) rfl⟩
      exact Fin.ok r3 q _ ⟨p, rfl, hn2⟩
    · exact fin_none q
  · exact fin_none q
/-- list(d) -/
def dKeysT (lv : Bool) (ds : List D) (μ : Sto) : R D := match ds with
  | [d] => match seeT μ d with
    | some kvs => alloc lv (kvs.map fun kv => .tup (kv.1.map keyR)) μ
    | none => none
  | _ => none
theorem keysR_ok : ∀ ks : List Key, Reps K B ρ G (ks.map keyR) (ks.map kV)
  | [] => rfl
  | k :: r => .cons (keyR_ok k) (keysR_ok r)
end
section
variable {K : PySem.W.Frag} {mg : Str → Option Value} {E : XK}
theorem keysT_rep {c : Ct} {ρ : List Addr} {G H : Hp} {μ : Sto} (r : Rel c ρ G μ H) : ∀ {kvs : List (List Key × D)} {ws : List (List Key × V)} {bs : List Addr}, RepT c.K c.B ρ G kvs ws → IsKeys H ws bs → Reps c.K c.B ρ G (kvs.map fun kv => .tup (kv.1.map keyR)) (bs.map V.ref)
  | [], _, _, h, q => by
    cases h
    cases q
    rfl
  | (k, d) :: l, _, _, ⟨v, s, e, _, h2⟩, q => by
    subst e
    cases q with
    | cons h t => exact .cons ⟨_, _, rfl, r.tp _ _ h, keysR_ok k⟩ (keysT_rep r h2 t)
theorem keysT_ok (lv : Bool) : CbD K E (fun xs H Q => ∃ d kvs, xs = [V.ref d] ∧ Rd H d (.dT kvs) ∧ ∀ p bs, H p = none → IsKeys H kvs bs → Q (.ref p) (upd H p (.lst (bs.map V.ref)))) (dKeysT lv) := by
  intro c ρ G H μ ds vs Q hK r hs h
  subst hK
  unfold dKeysT at h
  split at h
  · obtain ⟨v, rfl, hv⟩ := reps1 hs
    split at h
    · rename_i kvs e0
      obtain ⟨a, ws, rfl, h1, h2⟩ := seeTd_ok r e0 hv
      exact ⟨a, ws, rfl, .inl h1, fun p bs hp hb => alloc_use rfl r (keysT_rep r h2 hb) hp h⟩
    · exact fin_none h
  · exact fin_none h
end
/-! names = a list of that length -/
def sAsgL (is : List Nat) (f : FE) : FS := fun env μ => rb (f env μ) fun d μ1 => match seeL μ1 d with
  | some xs => if xs.length = is.length then ok (.nx (sets is xs env)) μ1 else none
  | none => none
section
variable {K : PySem.W.Frag} {mg : Str → Option Value} {E : XK}
theorem ts_asgL {is : List Nat} {f : FE} : ∀ Dn σ H, TSx K mg E (sAsgL is f) Dn σ H → tAsg (TX K mg E f) (gUnl K is.length (gs is)) Dn σ H := by
  rintro Dn σ H ⟨c, env, ρ, G, μ, hK, hm, re, eo, h⟩
  subst hK
  refine tx_use rfl hm re eo h fun d v ρ1 G1 μ1 H1 p1 e1 r1 eo1 hv h1 => ?_
  split at h1
  · rename_i xs e2
    split at h1
    · rename_i hl
      obtain ⟨a, vs, rfl, q1, q2⟩ := seeL_ok r1 e2 hv
      exact ⟨a, vs, rfl, q1, by rw [← q2.length, hl], gs_ok is xs vs env σ _ eo1 q2 hl fun σ' eo' _ => Fin.ok r1 h1 σ' eo'⟩
    · exact fin_none h1
  · exact fin_none h1
end
end Lv
set_option Elab.async false
set_option linter.all false
set_option maxRecDepth 100000
set_option autoImplicit false
/-! for k, v in d.items() over a dict with tuples as keys: the dict stands locked -/
namespace Lv
open PySem PySem.W PySem.Spec PyProof.Rows L2
section
variable {X : Cx} {pins : List (Addr × Obj)} {σ : L2.St} {H : Hp} {s : Shared} {d : Addr} {o : Obj}
theorem frzTI {kvs : List (List Key × V)} (I : Inv X pins σ H s) (h : H d = some (.frz o (.dT kvs))) :
    (d == sysModules) = false ∧ s.heap.get? d = some o ∧ o.ExactDict ∧ ∃ (es : Array DictEntry) (ep : Nat), o.data = .dict es ep ∧ es.size = kvs.length ∧
      ∀ (i : Nat) (k : List Key) (v : V), kvs[i]? = some (k, v) → ∃ (en : DictEntry) (q : Addr), es[i]? = some en ∧ en.key = .ref q ∧ H q = some (.tup (k.map kV)) ∧ RelV v en.val := by
  obtain ⟨hd, z, hs, xs, pr, o', es, ep, ho, hx, hdt, he, _⟩ := I.hok d _ h
  rw [hd] at ho
  cases ho
  refine ⟨hs, hd, hx, es, ep, hdt, ?_, fun i k v e => ?_⟩
  · have l1 : es.size = xs.length := size_of_entries he
    have l2 : kvs.length = xs.length := Paired.length pr
    omega
  · obtain ⟨b, hb, e1, e2, e3⟩ := paired_get pr e
    have q := entry_at he i
    rw [hb] at q
    exact ⟨_, b.2.1, q, rfl, e2, e3⟩
end
def Itit (d : Addr) (o : Obj) (kvs : List (List Key × V)) : It :=
  ⟨fun i H => H d = some (.frz o (.dT kvs)) ∧ i < kvs.length, fun i H x H' => ∃ T k v q, kvs[i]? = some (k, v) ∧ x = .ref T ∧ H T = none ∧ H q = some (.tup (k.map kV)) ∧ H' = upd H T (.tup [.ref q, v]), fun i H => H d = some (.frz o (.dT kvs)) ∧ kvs.length ≤ i⟩
theorem turn_itemsT {P : Program} {w : World} {K : PySem.W.Frag} {d : Addr} {o : Obj} {es : Array DictEntry} {ep : Nat} {kvs : List (List Key × V)} {elts : List Expr} {kk : Nat} {tpos : Pos} (it : Addr) (hod : o.data = .dict es ep) :
    Turn P w K (.Tuple elts kk tpos) (Itit d o kvs) [it] it (fun i h => ∃ ok ov, IsItemIter h it d i kvs.length ep ok ov) where
  mem := by simp
  obj := fun i h st b hb => by
    have e : b = it := by simpa using hb
    subst e
    obtain ⟨ok, ov, e⟩ := st
    exact ⟨_, e, fun v z => nomatch z⟩
  keep := fun i h h' st k => let ⟨ok, ov, e⟩ := st; ⟨ok, ov, k it (by simp) _ e⟩
  item := by
    intro X hP hw hK hc i pins s σ H E I hf st hg
    subst hP hw hK
    obtain ⟨hd, hi⟩ := hg
    obtain ⟨hs, hgd, hx, es', ep', hdt, hsz, ent⟩ := frzTI I hd
    obtain ⟨rfl, rfl⟩ := dict_ep hod hdt
    obtain ⟨⟨k, v⟩, hkv⟩ : ∃ p, kvs[i]? = some p := ⟨kvs[i], List.getElem?_eq_getElem hi⟩
    obtain ⟨en, q, hen, hkey, hq, hv⟩ := ent i k v hkv
    obtain ⟨ok, ov, he⟩ := st
    rw [← hsz] at he
    have hi' : i < es'.size := by omega
    have e1 : es'[i] = en := by
      rw [Array.getElem?_eq_getElem hi'] at hen
      exact Option.some.inj hen
    have hlt : it < s.heap.objs.size := Heap.lt_size he
    refine DT.nextI he ⟨o, hgd, hx, hdt⟩ hi' fun h' ho hT hz hk => ?_
    rw [e1, hkey] at hT ho
    refine ⟨_, rfl, wpAny_letOwnedTupleGo_items (s := { s with heap := h' }) ho fun h'' he' sb => ?_⟩
    have hT2 : h''.get? s.heap.objs.size = some { cls := .type "tuple", data := .seq #[.ref q, en.val] } := (sb.2 _ (Nat.ne_of_gt hlt)).trans hT
    have new : ObjOk X.prog X.w (upd H s.heap.objs.size (.tup [.ref q, v])) h'' s.heap.objs.size (.tup [.ref q, v]) :=
      ⟨by show 2 ≤ sizeLine; decide, [.ref q, en.val], .cons rfl (.cons hv .nil), ⟨_, hT2, rfl, _, rfl⟩⟩
    have I1 : Inv X pins σ (upd H s.heap.objs.size (.tup [.ref q, v])) { s with heap := h'' } :=
      I.turnedNew (t' := s.toks) (ch := [it]) (fun b ob hb e => (sb.2 b (by simpa using hb)).trans (hk b ob (by simpa using hb) e)) hf (Nat.le_refl _) new
    refine ⟨.ref s.heap.objs.size, _, I1, rfl, ⟨_, k, v, q, hkv, rfl, I.hok.fresh (Nat.le_refl _), hq, rfl⟩, ⟨.ref q, en.val, ?_⟩, fun b hb => ?_⟩
    · rw [← hsz]; exact he'
    · have e : b = it := by simpa using hb
      rw [e, upd_ne (Nat.ne_of_lt hlt)]
      exact (hf it (by simp)).1
  done := by
    intro X hP hw hK hc i pins s σ H E I hf st hg
    subst hP hw hK
    obtain ⟨hd, hi⟩ := hg
    obtain ⟨f0, f1, f2, f3, f4, f5⟩ := hf it (by simp)
    obtain ⟨hs, hgd, hx, es', ep', hdt, hsz, ent⟩ := frzTI I hd
    obtain ⟨rfl, rfl⟩ := dict_ep hod hdt
    obtain ⟨ok, ov, he⟩ := st
    rw [← hsz] at he
    exact DT.endI (I.ok.hd hc) he ⟨o, hgd, hx, hdt⟩ (by omega) fun h' eb => ⟨rfl, I.turned (t' := s.toks) (fun b ob hb e => eb b ob hb e) f0 f1 f3 f4 f5⟩
  self := fun A i s Q E st h => let ⟨_, _, e⟩ := st; PySem.W.kcp_self e h
def iItemsT (td : TE) : TI := fun σ H R => td σ H fun x H1 => ∃ d o kvs, x = .ref d ∧ H1 d = some (.frz o (.dT kvs)) ∧ R (Itit d o kvs) H1
theorem pi_itemsT {X : Cx} {e : Expr} {td : TE} {apos cpos : Pos} {elts : List Expr} {kk : Nat} {tpos : Pos} (he : PE X e td) (hbase : attributeBase e "items" X.env (eval e X.env) = eval e X.env := by rfl) (hline : (apos.endLine == cpos.line) = true := by rfl) :
    PI X (.Tuple elts kk tpos) (.Call (.Attribute e "items" apos) [] [] cpos) (iItemsT td) := by
  refine ⟨fun pins s σ H R I h => ?_⟩
  refine wpAny_Call_method (T := "dict") (id := "dict.items") hbase rfl hline F.plainAttrs_dict F.slot_dict_items F.type_dict_items (thn (he.run pins s σ H _ I h) fun u s1 ⟨x, H1, I1, rx, d, o, kvs, ex, hd, q⟩ => ?_)
  subst ex
  obtain rfl : u = Value.ref d := rx
  obtain ⟨hs, hgd, hx, es, ep, hdt, hsz, ent⟩ := frzTI I1 hd
  have hraw : DT.Raw s1.heap d es ep := ⟨o, hgd, hx, hdt⟩
  have nd : ∀ b, Value.ref d = .ref b → ∃ ob, s1.heap.get? b = some ob ∧ ob.dict = none := fun b e => by
    injection e with e
    subst e
    exact ⟨o, hgd, hx.2.1⟩
  refine ⟨hraw.typeIs, nd, ?_⟩
  have I2 : Inv X pins σ H1 { s1 with heap := s1.heap.push { cls := .type "dict_items", data := .fields #[.ref d] } } := I1.kept (t' := s1.toks) fun b ob q => Heap.get?_push_of_some _ q
  have fin : wpAny (model X.prog X.w) X.A (pyIter (.ref s1.heap.objs.size)) (PIE X pins σ (.Tuple elts kk tpos) R) X.xe { s1 with heap := s1.heap.push { cls := .type "dict_items", data := .fields #[.ref d] } } := by
    refine DT.iterI (d := d) ⟨_, Heap.get?_push_size _ rfl, rfl, rfl⟩ (hraw.push _) (pi_one (tk := s1.toks) I2 _ (turn_itemsT _ hdt) ⟨.none, .none, ?_⟩ q)
    rw [← hsz]
    exact Heap.get?_push_size _ rfl
  show wpAny _ _ (callWith cpos (.builtin "dict.items") [.ref d] [] []) _ X.xe s1
  exact method_meetsIn F.slot_dict_items F.entry_dict_items rfl (PySem.evalArgs_none ⟨rfl, hraw.typeIs, F.args_dict_items_1 _, _, DT.meetsItems hs, hraw, fin⟩)
/-! our store -/
theorem RepT.at {K : PySem.W.Frag} {B : Hp} {ρ : List Addr} {G : Hp} : ∀ {kvs : List (List Key × D)} {ws : List (List Key × V)}, RepT K B ρ G kvs ws → ws.length = kvs.length ∧ ∀ (i : Nat) (k : List Key) (x : D), kvs[i]? = some (k, x) → ∃ v, ws[i]? = some (k, v) ∧ Rep K B ρ G x v
  | [], _, h => by
    cases h
    exact ⟨rfl, fun i k x e => by simp at e⟩
  | (k, d) :: l, _, ⟨v, s, e, h1, h2⟩ => by
    subst e
    have ih := RepT.at h2
    refine ⟨by rw [List.length_cons, List.length_cons, ih.1], fun i k' x e => ?_⟩
    cases i with
    | zero =>
      cases e
      exact ⟨v, rfl, h1⟩
    | succ i => exact ih.2 i k' x e
def Cell.lkd : Cell → Bool
  | .lkT _ => true
  | .lkK _ => true
  | _ => false
theorem relL {c : Ct} {ρ : List Addr} {G H : Hp} {μ : Sto} {L' : Hp} (r : Rel c ρ G μ H) (h : ∀ (n : Nat) (a : Addr) (x : Cell), ρ[n]? = some a → μ[n]? = some x → x.lkd = true → L' a = c.L a) : Rel { c with L := L' } ρ G μ H :=
  ⟨r.gh, r.bh, r.ph, r.tp, r.g0, r.nw, r.gp, r.ln, r.nd, fun n a x e1 e2 => by
    have q := r.cl n a x e1 e2
    cases x with
    | lst m xs => cases m <;> exact q
    | dK m xs => cases m <;> exact q
    | dT m xs => cases m <;> exact q
    | ins _ _ => exact q
    | lkT kvs =>
      obtain ⟨q1, q2, ws, od, q3, q4, q5⟩ := q
      exact ⟨q1, q2, ws, od, by rw [← q3]; exact h n a _ e1 e2 rfl, q4, q5⟩
    | exn _ _ => exact q
    | lkK kvs =>
      obtain ⟨q1, q2, ws, od, q3, q4, q5⟩ := q
      exact ⟨q1, q2, ws, od, by rw [← q3]; exact h n a _ e1 e2 rfl, q4, q5⟩⟩
theorem same_at {ρ : List Addr} (nd : ρ.Nodup) {m n : Nat} {a : Addr} (h1 : ρ[m]? = some a) (h2 : ρ[n]? = some a) : m = n := by
  obtain ⟨l1, e1⟩ := List.getElem?_eq_some_iff.mp h1
  obtain ⟨l2, e2⟩ := List.getElem?_eq_some_iff.mp h2
  rcases Nat.lt_trichotomy m n with z | z | z
  · exact absurd (e1.trans e2.symm) (List.pairwise_iff_getElem.mp nd m n l1 l2 z)
  · exact z
  · exact absurd (e2.trans e1.symm) (List.pairwise_iff_getElem.mp nd n m l2 l1 z)
def dSrcI (n : Nat) (d : D) (μ : Sto) : R Sr := match d with
  | .ref n' => if n' = n then (match μ[n]? with
    | some (.lkT _) => ok (.itm n) μ
    | _ => none) else none
  | _ => none
def sForI (tg : Tg) (f : FE) (body : FS) : FS := fun env μ => match f env μ with
  | some (.ok (.ref n, _)) => match μ[n]? with
    | some (.dT .live kvs) => match sFor tg (fun env μ => rb (f env μ) (dSrcI n)) body env (μ.set n (.lkT kvs)) with
      | some (.ok (fl, μ2)) => match μ2[n]? with
        | some (.lkT kvs2) => ok fl (μ2.set n (.dT .live kvs2))
        | _ => none
      | _ => none
    | _ => none
  | _ => none
section
variable {K : PySem.W.Frag} {mg : Str → Option Value} {E : XK}
theorem sr_items {c : Ct} {ρ0 : List Addr} {G0 : Hp} {n : Nat} {a : Addr} {od : Obj} {ws : List (List Key × V)} (ha : ρ0[n]? = some a) (hl : c.L a = some (.frz od (.dT ws))) : SrOk c (.itm n) (Itit a od ws) ρ0 G0 := by
  intro c' ρ G μ H hK hB hL p e r i o ho
  have ho' : (match μ[n]? with
    | some (.lkT kvs) => some (kvs[i]?.map itmD)
    | _ => none) = some o := ho
  split at ho'
  · rename_i kvs e0
    cases ho'
    obtain ⟨_, _, ws', od', q1, q2, q3⟩ := r.cl n a _ (pre_get p ha) e0
    rw [hL, hl] at q1
    cases q1
    rw [hK, hB] at q3
    obtain ⟨l1, at_⟩ := q3.at
    cases ei : kvs[i]? with
    | none =>
      refine ⟨q2, ?_⟩
      have := List.getElem?_eq_none_iff.mp ei
      omega
    | some kv =>
      obtain ⟨k, x⟩ := kv
      obtain ⟨v, h1, h2⟩ := at_ i k x ei
      have hi := (List.getElem?_eq_some_iff.mp h1).1
      refine ⟨⟨q2, hi⟩, fun y H' hy => ?_⟩
      obtain ⟨T, k', v', q, y1, rfl, hT, hq, rfl⟩ := hy
      rw [h1] at y1
      cases y1
      refine ⟨_, same_upd (r.none_g hT), r.frozen hT, ?_⟩
      refine rep_updT (r.none_g hT) (xs := [.tup (k.map keyR), x]) ⟨_, _, rfl, ⟨q, _, rfl, r.tp _ _ hq, keysR_ok k⟩, _, _, rfl, h2, rfl⟩
  · cases ho'
theorem txi_itemsT {f : FE} {n : Nat} : ∀ σ H R, TXi K mg E (fun env μ => rb (f env μ) (dSrcI n)) σ H R → iItemsT (TX K mg E f) σ H R := by
  rintro σ H R ⟨c, env, ρ, G, μ, hK, hm, re, eo, h⟩
  subst hK
  refine tx_use rfl hm re eo h fun d v ρ1 G1 μ1 H1 p1 e1 r1 eo1 hv h1 => ?_
  unfold dSrcI at h1
  split at h1
  · rename_i n'
    split at h1
    · rename_i hn
      subst hn
      obtain ⟨a, rfl, ha⟩ := hv
      split at h1
      · rename_i kvs e0
        obtain ⟨hb, hg, ws, od, hL, hH, hr⟩ := r1.cl _ a _ ha e0
        exact ⟨a, od, ws, rfl, hH, Fin.ok r1 h1 _ (sr_items ha hL)⟩
      · exact fin_none h1
    · exact fin_none h1
  · exact fin_none h1
theorem ts_forI {tg : Tg} {f : FE} {body : FS} : ∀ Dn σ H, TSx K mg E (sForI tg f body) Dn σ H → tLock (tFor (iItemsT (TX K mg E f)) (tg.g K) (TSx K mg E body)) Dn σ H := by
  rintro Dn σ H ⟨c, env, ρ, G, μ, hK, hm, re, eo, h⟩
  subst hK
  unfold sForI at h
  split at h
  · rename_i n μ0 e0
    split at h
    · rename_i kvs e1
      split at h
      · rename_i fl μ2 e2
        split at h
        · rename_i kvs2 e3
          have hn : n < ρ.length := by rw [re.ln]; exact (List.getElem?_eq_some_iff.mp e1).1
          obtain ⟨a, ha⟩ : ∃ a, ρ[n]? = some a := ⟨ρ[n], List.getElem?_eq_getElem hn⟩
          obtain ⟨hb, hg, ws, hH, hrep⟩ := re.cl n a _ ha e1
          refine ⟨a, .dT ws, hH, trivial, fun od => ?_⟩
          have r0 : Rel { c with L := upd c.L a (.frz od (.dT ws)) } ρ G μ H := relL re fun m b kv q1 q2 q3 => by
            refine upd_ne fun z => ?_
            subst z
            have := same_at re.nd q1 ha
            subst this
            rw [e1] at q2
            cases q2
            cases q3
          have r1 : Rel { c with L := upd c.L a (.frz od (.dT ws)) } ρ G (μ.set n (.lkT kvs)) (upd H a (.frz od (.dT ws))) :=
            r0.write ha hg hb (fun _ z => by cases z) ⟨hb, hg, ws, od, upd_same, upd_same, hrep⟩
          refine txi_itemsT (n := n) _ _ _ (ts_for _ _ _ ⟨{ c with L := upd c.L a (.frz od (.dT ws)) }, env, ρ, G, μ.set n (.lkT kvs), rfl, hm, r1, eo, ?_⟩)
          rw [e2]
          intro ρ' G' H' p' e' r'
          have ha' := pre_get p' ha
          obtain ⟨hb', hg', ws', od', q1, q2, q3⟩ := r'.cl n a _ ha' e3
          rw [show ({ c with L := upd c.L a (.frz od (.dT ws)) } : Ct).L a = some (.frz od (.dT ws)) from upd_same] at q1
          cases q1
          have r2 := r'.write (x := .dT .live kvs2) (o := .dT ws) ha' hg' hb' (fun _ z => by cases z) ⟨hb', hg', ws, upd_same, q3⟩
          have r3 : Rel c ρ' G' (μ2.set n (.dT .live kvs2)) (upd H' a (.dT ws)) := by
            have := relL (L' := c.L) r2 fun m b kv z1 z2 z3 => by
              refine (upd_ne fun z => ?_).symm
              subst z
              have := same_at r2.nd z1 ha'
              subst this
              rw [List.getElem?_set_self (List.getElem?_eq_some_iff.mp e3).1] at z2
              cases z2
              cases z3
            exact this
          have fin := h ρ' G' _ p' e' r3
          cases fl with
          | nx env' => exact fun σ' eo' => ⟨q2, fin σ' eo'⟩
          | rt d => exact fun v hv => ⟨q2, fin v hv⟩
        · exact fin_none h
      · exact fin_none h
    · exact fin_none h
  · exact fin_none h
end
end Lv
set_option Elab.async false
set_option linter.all false
set_option maxRecDepth 100000
set_option autoImplicit false
/-! d.pop(k), the key being there -/
namespace Lv
open PySem PySem.W PySem.Calls PySem.Spec PyProof.Rows L2
section
variable {κ : Type} [DecidableEq κ] {prog : Program} {w : World} {knd : HeapKind prog w κ}
theorem meetsPop1 {d b : Addr} {k : κ} (hd : (d == sysModules) = false) :
    MeetsIn prog w (Builtin.«dict.pop» ⟨[.ref d, .ref b], []⟩) (fun A R s => ∃ (xs : List (κ × Addr × Value)) (p : Addr × Value), knd.room A.in1 ∧ knd.is s.heap k b ∧ s.heap.DictOfH knd d xs ∧ xs.length ≤ sizeLine ∧ atKey xs k = some p ∧
      ∀ h' tk, h'.DictOfH knd d (DT.dropH xs k) → Heap.SameBut d s.heap h' → R (.ok (.ret p.2)) { s with heap := h', toks := tk }) :=
  .of_wp fun A R s ⟨xs, p0, hu, hkey, hm, hsz, hp0, hsome⟩ => by
    obtain ⟨o, es, ep, ho, hc, hdat, he, his, hn⟩ := id hm
    have hes : es.size = xs.length := size_of_entries he
    have hpart : (keyPart (Value.ref b)).isSome = false := rfl
    unfold Builtin.«dict.pop»
    refine wpAny_bind ?_
    unfold Builtin.Dict.keyAndDefault
    refine wpAny_bind (wpAny_notOrdered_dict hm.typeIs ?_)
    show wpAny _ _ (pure (d, Value.ref b, none)) _ _ s
    refine wpAny_pure ?_
    simp only [hpart, Bool.false_eq_true, if_false]
    refine wpAny_bind (wpAny_dictEntries ho hdat (wpAny_bind (wpAny_pure ?_)))
    cases hem : es.isEmpty with
    | true =>
      have h0 : xs = [] := by
        have z : es.size = 0 := by simpa using hem
        exact List.length_eq_zero_iff.mp (by omega)
      rw [h0] at hp0
      cases hp0
    | false =>
      simp only [Bool.false_eq_true, if_false]
      refine wpAny_bind (DT.takeH hu hkey hm hsz (fun hno => ?_) fun p e hp hev h' hm' hs' => ?_)
      · rw [hp0] at hno
        cases hno
      · rw [hp0] at hp
        cases hp
        simp only [Option.isNone_some, Bool.false_eq_true, if_false]
        exact wpAny_bind (wpAny_letGo (wpAny_pure ⟨e.val, rfl, by rw [hev]; exact hsome h' _ hm' hs'⟩))
end
def rPop1 : V → List V → Hp → VK → Prop := fun x xs H Q => ∃ (a : Addr) (kvs : List (List L2.Key × V)) (k : List L2.Key) (b : Addr) (v : V), x = .ref a ∧ xs = [.ref b] ∧ H a = some (.dT kvs) ∧ H b = some (.tup (k.map kV)) ∧
  valV kvs k = some v ∧ Q v (upd H a (.dT (dropK kvs k)))
open L2.DX in
theorem mt_pop1 {X : Cx} (hu : X.A.units + 1 < cLine) : MtR X "dict.pop" rPop1 := by
  intro pins s σ H x xs v us Q I rx rxs h
  obtain ⟨a, kvs, k, b, v0, rfl, rfl, ha, hb, ev, q⟩ := h
  cases rx
  cases rxs with
  | cons r1 rs =>
    cases rs
    cases r1
    obtain ⟨z, hd, xs', rel, dd⟩ := dt_of I.hok ha
    have hz : xs'.length ≤ sizeLine := by rw [← Paired.length rel]; exact z
    have r := rel.val k
    rw [ev] at r
    obtain ⟨p, hp, rv⟩ : ∃ p, atKey xs' k = some p ∧ RelV v0 p.2 := by
      cases e : atKey xs' k with
      | none =>
        rw [e] at r
        exact (show False from r).elim
      | some p =>
        rw [e] at r
        exact ⟨p, rfl, r⟩
    refine call_meetsIn PySem.F.slot_dict_pop dd.typeIs PySem.F.entry_dict_pop (PySem.F.args_dict_pop_2 _ _) (meetsPop1 (knd := tupleKind (mixKind X.prog X.w)) (k := k) hd)
      ⟨xs', p, tupleKind_room_in1 hu, key_of I.hok hb, dd, hz, hp, fun h' tk dd' hs => ?_⟩
    obtain ⟨o, es, ep, hq, h2, h3, h4, _, h5⟩ := dd'
    have I2 : Inv X pins σ (upd H a (.dT (dropK kvs k))) { s with heap := h', toks := tk } :=
      d_write I (by rw [ha]; exact True.intro) hs ⟨o, hq⟩ ⟨Nat.le_trans (dropK_le kvs k) z, hd, _, (KT_drop k rel).keeps (fun c ys ec => (by rw [upd_ne (ne_of ec ha (fun z => nomatch z))]; exact ec)), o, es, ep, hq, h2, h3, h4, h5⟩
    show EP X pins σ Q p.2 _
    exact ⟨v0, _, I2, rv, q⟩
theorem RepT.drop {K : PySem.W.Frag} {B : Hp} {ρ : List Addr} {G : Hp} {k : List Key} : ∀ {kvs : List (List Key × D)} {ws : List (List Key × V)}, RepT K B ρ G kvs ws → RepT K B ρ G (kvs.filter fun kv => decide (kv.1 ≠ k)) (dropK ws k)
  | [], _, h => by
    cases h
    rfl
  | (k', d) :: l, _, ⟨v, s, e, h1, h2⟩ => by
    subst e
    have ih := RepT.drop (k := k) h2
    unfold dropK at ih ⊢
    by_cases q : k' = k
    · rw [List.filter_cons_of_neg (by simp [q]), List.filter_cons_of_neg (by simp [q])]
      exact ih
    · rw [List.filter_cons_of_pos (by simp [q]), List.filter_cons_of_pos (by simp [q])]
      exact ⟨v, _, rfl, h1, ih⟩
def dPop (o i : D) (μ : Sto) : R D := match o, i with
  | .ref n, .tup ks => match μ[n]?, omap keyD ks with
    | some (.dT .live kvs), some k => match valD kvs k with
      | some v => ok v (μ.set n (.dT .live (kvs.filter fun kv => decide (kv.1 ≠ k))))
      | none => none
    | _, _ => none
  | _, _ => none
def fPop (f : FE) (fs : FEs) : FE := fun env μ => rb (f env μ) fun d μ1 => if isDc μ1 d = true then rb (fs env μ1) fun ds μ2 => match ds with
  | [e] => dPop d e μ2
  | _ => none else none
section
variable {K : PySem.W.Frag} {mg : Str → Option Value} {E : XK}
theorem tx_pop {f : FE} {fs : FEs} : ∀ σ H Q, TX K mg E (fPop f fs) σ H Q → tBM K "dict" rPop1 (TX K mg E f) (TXs K mg E fs) σ H Q := by
  rintro σ H Q ⟨c, env, ρ, G, μ, hK, hm, re, eo, h⟩
  subst hK
  refine tx_use rfl hm re eo h fun d v ρ1 G1 μ1 H1 p1 e1 r1 eo1 hv h1 => ?_
  split at h1
  · rename_i hl
    refine ⟨isDc_ok r1 hl hv, txs_use rfl hm r1 eo1 h1 fun ds vs ρ2 G2 μ2 H2 p2 e2 r2 eo2 hvs h2 => ?_⟩
    split at h2
    · rename_i e
      obtain ⟨y, rfl, hy⟩ := reps1 hvs
      have hx := hv.mono p2 e2
      unfold dPop at h2
      split at h2
      · rename_i n ks
        obtain ⟨a, rfl, ha⟩ := hx
        split at h2
        · rename_i kvs k e3 e4
          split at h2
          · rename_i dv e5
            obtain ⟨hb, hg, ws, hH, hr⟩ := r2.cl n a _ ha e3
            obtain ⟨b, vs', rfl, h3, h4⟩ := hy
            rcases repT_val (k := k) hr with ⟨z, _⟩ | ⟨d', v', z, z2, h5⟩
            · rw [e5] at z
              cases z
            · rw [e5] at z
              cases z
              refine ⟨a, ws, k, b, v', rfl, rfl, hH, ?_, z2, Fin.ok (r2.write (o := .dT (dropK ws k)) (x := .dT .live (kvs.filter fun kv => decide (kv.1 ≠ k))) ha hg hb (fun _ z => by cases z) ⟨hb, hg, _, upd_same, hr.drop⟩) h2 v' h5⟩
              rw [← keysD_ok e4 h4]
              exact r2.gh _ _ h3
          · exact fin_none h2
        · exact fin_none h2
      · exact fin_none h2
    · exact fin_none h2
  · exact fin_none h1
end
end Lv
set_option Elab.async false
set_option linter.all false
set_option maxRecDepth 100000
set_option autoImplicit false
/-! list.remove of a text -/
namespace Lv
open PySem PySem.W PySem.Calls PySem.Spec PyProof.Rows L2
def eqs (x : Str) (v : Value) : Bool := match v with
  | .str z _ => z == x
  | _ => false
def rRemS : V → List V → Hp → VK → Prop := fun x xs H Q => ∃ (l : Addr) (ns : List Str) (k : Str) (j : Nat), x = .ref l ∧ xs = [.str k] ∧ H l = some (.lst (ns.map V.str)) ∧ ns[j]? = some k ∧ (∀ m : Nat, m < j → ns[m]? ≠ some k) ∧ Q .non (upd H l (.lst ((ns.eraseIdx j).map V.str)))
theorem erase_mapS : ∀ (l : List Str) (j : Nat), (l.map V.str).eraseIdx j = (l.eraseIdx j).map V.str
  | [], j => by simp
  | a :: r, 0 => by simp
  | a :: r, j + 1 => by
    have ih := erase_mapS r j
    simp [ih]
theorem mt_removeS {X : Cx} : MtM X "list.remove" rRemS := by
  intro pins s σ H x xs v us Q I rx rxs h
  obtain ⟨l, ns, k, j, rfl, rfl, hH, hj, hno, q⟩ := h
  cases rx
  obtain ⟨u, rfl, ru⟩ := rxs.one
  obtain ⟨t, rfl⟩ := ru
  obtain ⟨z, its, n, r, hl, e⟩ := I.lstM hH
  have at_ : ∀ (i : Nat) (y : Str), ns[i]? = some y → ∃ t, its[i]? = some (.str y t) := fun i y hy => by
    obtain ⟨u, hu, ru⟩ := r.get (i := i) (x := .str y) (by rw [List.getElem?_map, hy]; rfl)
    obtain ⟨t, rfl⟩ := ru
    exact ⟨t, hu⟩
  rw [List.length_map] at hl z
  have hjn : j < ns.length := (List.getElem?_eq_some_iff.mp hj).1
  have hjl : j < its.toArray.size := by rw [List.size_toArray]; omega
  have gv : ∀ y, y ∈ its.toArray → MeetsSeq.EqGives y (.str k t) (eqs k y) := fun y hy => by
    obtain ⟨i, hi, e2⟩ := List.getElem_of_mem (show y ∈ its by simpa using hy)
    obtain ⟨t', h1⟩ := at_ i ns[i] (List.getElem?_eq_getElem (by omega))
    rw [List.getElem?_eq_getElem hi, e2] at h1
    cases h1
    exact fun _ _ _ _ _ _ h => wpAny_eqBool_str h
  refine call_meets PySem.F.slot_list_remove ⟨_, e, rfl⟩ PySem.F.entry_list_remove (PySem.F.args_list_remove_2 _ _)
    (MeetsSeq.list_remove l its.toArray n (.str k t) (eqs k) gv j hjl ?_ ?_ (by rw [List.size_toArray]; omega)) ⟨e, ?_⟩
  · obtain ⟨tj, hjt⟩ := at_ j k hj
    obtain ⟨h1, h2⟩ := List.getElem?_eq_some_iff.mp hjt
    have e1 : its.toArray[j] = .str k tj := by simpa using h2
    rw [e1]
    exact beq_self_eq_true k
  · intro m hm hmj
    have hmn : m < ns.length := by omega
    obtain ⟨tm, hmt⟩ := at_ m _ (List.getElem?_eq_getElem hmn)
    obtain ⟨h1, h2⟩ := List.getElem?_eq_some_iff.mp hmt
    have e1 : its.toArray[m] = .str ns[m] tm := by simpa using h2
    rw [e1]
    refine beq_eq_false_iff_ne.mpr fun e2 => hno m hmj ?_
    rw [List.getElem?_eq_getElem hmn, e2]
  · have rr := r.eraseIdx j
    rw [erase_mapS] at rr
    refine ⟨.non, _, I.lset (its' := its.eraseIdx j) (t' := s.toks) hH e ?_ rr ?_, rfl, q⟩
    · show its.toArray.eraseIdxIfInBounds j = (its.eraseIdx j).toArray
      rw [List.eraseIdxIfInBounds_toArray]
    · have z2 := len_erase ns j
      rw [List.length_map]
      omega
def txsD : List D → Option (List Str)
  | [] => some []
  | .str x :: r => (txsD r).map (x :: ·)
  | _ :: _ => none
theorem txsD_ok {K : PySem.W.Frag} {B : Hp} {ρ : List Addr} {G : Hp} : ∀ {xs : List D} {vs : List V} {zs : List Str}, txsD xs = some zs → Reps K B ρ G xs vs → xs = zs.map D.str ∧ vs = zs.map V.str
  | [], vs, zs, h, q => by
    cases h
    cases q
    exact ⟨rfl, rfl⟩
  | .str x :: r, vs, zs, h, ⟨v, s, e, h1, h2⟩ => by
    subst e
    have h' : (txsD r).map (x :: ·) = some zs := h
    cases e2 : txsD r with
    | none =>
      rw [e2] at h'
      cases h'
    | some ys =>
      rw [e2] at h'
      cases h'
      obtain ⟨q1, q2⟩ := txsD_ok e2 h2
      cases h1
      exact ⟨by rw [q1]; rfl, by rw [q2]; rfl⟩
theorem idx_first : ∀ {zs : List Str} {x : Str}, x ∈ zs → zs[zs.idxOf x]? = some x ∧ ∀ m : Nat, m < zs.idxOf x → zs[m]? ≠ some x
  | [], x, h => absurd h List.not_mem_nil
  | z :: r, x, h => by
    by_cases q : z = x
    · subst q
      rw [List.idxOf_cons_self]
      exact ⟨rfl, fun m hm => absurd hm (by omega)⟩
    · have hr : x ∈ r := (List.mem_cons.mp h).resolve_left fun e => q e.symm
      obtain ⟨h1, h2⟩ := idx_first hr
      have ei : (z :: r).idxOf x = r.idxOf x + 1 := by
        rw [List.idxOf_cons, show (z == x) = false from beq_eq_false_iff_ne.mpr q]
        rfl
      rw [ei]
      refine ⟨h1, fun m hm => ?_⟩
      cases m with
      | zero => exact fun e => q (Option.some.inj e)
      | succ m => exact h2 m (by omega)
def dRemS (o i : D) (μ : Sto) : R D := match o, i with
  | .ref n, .str x => match μ[n]? with
    | some (.lst .live xs) => match txsD xs with
      | some zs => if x ∈ zs then ok .non (μ.set n (.lst .live ((zs.eraseIdx (zs.idxOf x)).map D.str))) else none
      | none => none
    | _ => none
  | _, _ => none
def fRemS (f : FE) (fs : FEs) : FE := fun env μ => rb (f env μ) fun d μ1 => if isList μ1 d = true then rb (fs env μ1) fun ds μ2 => match ds with
  | [e] => dRemS d e μ2
  | _ => none else none
section
variable {K : PySem.W.Frag} {mg : Str → Option Value} {E : XK}
theorem tx_remS {f : FE} {fs : FEs} : ∀ σ H Q, TX K mg E (fRemS f fs) σ H Q → tBM K "list" rRemS (TX K mg E f) (TXs K mg E fs) σ H Q := by
  rintro σ H Q ⟨c, env, ρ, G, μ, hK, hm, re, eo, h⟩
  subst hK
  refine tx_use rfl hm re eo h fun d v ρ1 G1 μ1 H1 p1 e1 r1 eo1 hv h1 => ?_
  split at h1
  · rename_i hl
    refine ⟨isList_ok r1 hl hv, txs_use rfl hm r1 eo1 h1 fun ds vs ρ2 G2 μ2 H2 p2 e2 r2 eo2 hvs h2 => ?_⟩
    split at h2
    · rename_i e
      obtain ⟨y, rfl, hy⟩ := reps1 hvs
      have hx := hv.mono p2 e2
      unfold dRemS at h2
      split at h2
      · rename_i n x
        obtain ⟨a, rfl, ha⟩ := hx
        cases hy
        split at h2
        · rename_i xs e3
          split at h2
          · rename_i zs e4
            split at h2
            · rename_i hxz
              obtain ⟨hb, hg, ws, hH, hr⟩ := r2.cl n a _ ha e3
              obtain ⟨q1, q2⟩ := txsD_ok e4 hr
              subst q2
              obtain ⟨i1, i2⟩ := idx_first hxz
              have hr2 : Reps c.K c.B ρ2 G2 ((zs.eraseIdx (zs.idxOf x)).map D.str) ((zs.eraseIdx (zs.idxOf x)).map V.str) := by
                have key : ∀ us : List Str, Reps c.K c.B ρ2 G2 (us.map D.str) (us.map V.str) := fun us => by
                  induction us with
                  | nil => rfl
                  | cons u r ih => exact .cons rfl ih
                exact key _
              exact ⟨a, zs, x, zs.idxOf x, rfl, rfl, hH, i1, i2, Fin.ok (r2.write (o := .lst ((zs.eraseIdx (zs.idxOf x)).map V.str)) (x := .lst .live ((zs.eraseIdx (zs.idxOf x)).map D.str)) ha hg hb (fun _ z => by cases z) ⟨hb, hg, _, upd_same, hr2⟩) h2 .non rfl⟩
            · exact fin_none h2
          · exact fin_none h2
        · exact fin_none h2
      · exact fin_none h2
    · exact fin_none h2
  · exact fin_none h1
end
end Lv
set_option Elab.async false
set_option linter.all false
set_option maxRecDepth 100000
set_option autoImplicit false
/-! for k in d, [.. for k in d ..]: the dict stands locked; d[k] of a locked dict -/
namespace Lv
open PySem PySem.Spec PyProof.Rows L2
def dSrcK (n : Nat) (d : D) (μ : Sto) : R Sr := match d with
  | .ref n' => if n' = n then (match μ[n]? with
    | some (.lkK _) => ok (.kys n) μ
    | some (.lkT _) => ok (.kys n) μ
    | _ => none) else none
  | _ => none
def lockD : Cell → Option Cell
  | .dK .live kvs => some (.lkK kvs)
  | .dT .live kvs => some (.lkT kvs)
  | _ => none
def freeD : Cell → Option Cell
  | .lkK kvs => some (.dK .live kvs)
  | .lkT kvs => some (.dT .live kvs)
  | _ => none
def atK {α : Type} (f : FE) (run : FE → Env → Sto → R α) (n : Nat) : Env → Sto → R α := fun env μ => match (μ[n]?).bind lockD with
  | some x => match run f env (μ.set n x) with
    | some (.ok (a, μ2)) => match (μ2[n]?).bind freeD with
      | some y => ok a (μ2.set n y)
      | none => none
    | _ => none
  | none => none
def refAt (f : FE) (env : Env) (μ : Sto) : Option Nat := match f env μ with
  | some (.ok (.ref n, _)) => some n
  | _ => none
def sForK (tg : Tg) (f : FE) (body : FS) : FS := fun env μ => match refAt f env μ with
  | some n => atK f (fun f => sFor tg (fun env μ => rb (f env μ) (dSrcK n)) body) n env μ
  | none => none
def fCompK (lv : Bool) (f : FE) (tg : Tg) (cond : Option FE) (elt : FE) (own : List Nat) : FE := fun env μ => match refAt f env μ with
  | some n => atK f (fun f => fComp lv (fun env μ => rb (f env μ) (dSrcK n)) tg cond elt own) n env μ
  | none => none
section
variable {K : PySem.W.Frag} {mg : Str → Option Value} {E : XK}
theorem RepK.at {K : PySem.W.Frag} {B : Hp} {ρ : List Addr} {G : Hp} : ∀ {kvs : List (Key × D)} {ws : List (Key × V)}, RepK K B ρ G kvs ws → ws.length = kvs.length ∧ ∀ (i : Nat) (k : Key) (x : D), kvs[i]? = some (k, x) → ∃ v, ws[i]? = some (k, v) ∧ Rep K B ρ G x v
  | [], _, h => by
    cases h
    exact ⟨rfl, fun i k x e => by simp at e⟩
  | (k, d) :: l, _, ⟨v, s, e, h1, h2⟩ => by
    subst e
    have ih := RepK.at h2
    refine ⟨by rw [List.length_cons, List.length_cons, ih.1], fun i k' x e => ?_⟩
    cases i with
    | zero =>
      cases e
      exact ⟨v, rfl, h1⟩
    | succ i => exact ih.2 i k' x e
theorem sr_keysK {c : Ct} {ρ0 : List Addr} {G0 : Hp} {n : Nat} {a : Addr} {od : Obj} {ws : List (Key × V)} (ha : ρ0[n]? = some a) (hl : c.L a = some (.frz od (.dK ws))) : SrOk c (.kys n) (Itk a od ws) ρ0 G0 := by
  intro c' ρ G μ H hK hB hL p e r i o ho
  have ho' : (match μ[n]? with
    | some (.lkK kvs) => some (kvs[i]?.map fun kv => keyR kv.1)
    | some (.lkT kvs) => some (kvs[i]?.map fun kv => .tup (kv.1.map keyR))
    | _ => none) = some o := ho
  split at ho'
  · rename_i kvs e0
    cases ho'
    obtain ⟨_, _, ws', od', q1, q2, q3⟩ := r.cl n a _ (pre_get p ha) e0
    rw [hL, hl] at q1
    cases q1
    rw [hK, hB] at q3
    obtain ⟨l1, at_⟩ := q3.at
    cases ei : kvs[i]? with
    | none =>
      refine ⟨q2, ?_⟩
      have := List.getElem?_eq_none_iff.mp ei
      omega
    | some kv =>
      obtain ⟨k, x⟩ := kv
      obtain ⟨v, h1, h2⟩ := at_ i k x ei
      have hi := (List.getElem?_eq_some_iff.mp h1).1
      refine ⟨⟨q2, hi⟩, fun y H' hy => ?_⟩
      obtain ⟨rfl, k', v', y1, rfl⟩ := hy
      rw [h1] at y1
      cases y1
      exact ⟨G, Same.refl _, r, keyR_ok k⟩
  · rename_i kvs e0
    obtain ⟨_, _, ws', od', q1, q2, q3⟩ := r.cl n a _ (pre_get p ha) e0
    rw [hL, hl] at q1
    cases q1
  · cases ho'
theorem sr_keysT {c : Ct} {ρ0 : List Addr} {G0 : Hp} {n : Nat} {a : Addr} {od : Obj} {ws : List (List Key × V)} (ha : ρ0[n]? = some a) (hl : c.L a = some (.frz od (.dT ws))) : SrOk c (.kys n) (Itkt a od ws) ρ0 G0 := by
  intro c' ρ G μ H hK hB hL p e r i o ho
  have ho' : (match μ[n]? with
    | some (.lkK kvs) => some (kvs[i]?.map fun kv => keyR kv.1)
    | some (.lkT kvs) => some (kvs[i]?.map fun kv => .tup (kv.1.map keyR))
    | _ => none) = some o := ho
  split at ho'
  · rename_i kvs e0
    obtain ⟨_, _, ws', od', q1, q2, q3⟩ := r.cl n a _ (pre_get p ha) e0
    rw [hL, hl] at q1
    cases q1
  · rename_i kvs e0
    cases ho'
    obtain ⟨_, _, ws', od', q1, q2, q3⟩ := r.cl n a _ (pre_get p ha) e0
    rw [hL, hl] at q1
    cases q1
    rw [hK, hB] at q3
    obtain ⟨l1, at_⟩ := q3.at
    cases ei : kvs[i]? with
    | none =>
      refine ⟨q2, ?_⟩
      have := List.getElem?_eq_none_iff.mp ei
      omega
    | some kv =>
      obtain ⟨k, x⟩ := kv
      obtain ⟨v, h1, h2⟩ := at_ i k x ei
      have hi := (List.getElem?_eq_some_iff.mp h1).1
      refine ⟨⟨q2, hi⟩, fun y H' hy => ?_⟩
      obtain ⟨rfl, k', v', q, y1, rfl, hq⟩ := hy
      rw [h1] at y1
      cases y1
      exact ⟨G, Same.refl _, r, ⟨q, _, rfl, r.tp _ _ hq, keysR_ok k⟩⟩
  · cases ho'
theorem txi_keys {f : FE} {n : Nat} : ∀ σ H R, TXi K mg E (fun env μ => rb (f env μ) (dSrcK n)) σ H R → iKeys (TX K mg E f) σ H R := by
  rintro σ H R ⟨c, env, ρ, G, μ, hK, hm, re, eo, h⟩
  subst hK
  refine tx_use rfl hm re eo h fun d v ρ1 G1 μ1 H1 p1 e1 r1 eo1 hv h1 => ?_
  unfold dSrcK at h1
  split at h1
  · rename_i n'
    split at h1
    · rename_i hn
      subst hn
      obtain ⟨a, rfl, ha⟩ := hv
      split at h1
      · rename_i kvs e0
        obtain ⟨hb, hg, ws, od, hL, hH, hr⟩ := r1.cl _ a _ ha e0
        exact ⟨a, od, rfl, .inl ⟨ws, hH, Fin.ok r1 h1 _ (sr_keysK ha hL)⟩⟩
      · rename_i kvs e0
        obtain ⟨hb, hg, ws, od, hL, hH, hr⟩ := r1.cl _ a _ ha e0
        exact ⟨a, od, rfl, .inr ⟨ws, hH, Fin.ok r1 h1 _ (sr_keysT ha hL)⟩⟩
      · exact fin_none h1
    · exact fin_none h1
  · exact fin_none h1
/-- a live dict is locked -/
theorem lock_ok {c : Ct} {ρ : List Addr} {G H : Hp} {μ : Sto} {n : Nat} {x : Cell} (re : Rel c ρ G μ H) (h : (μ[n]?).bind lockD = some x) : ∃ a u, ρ[n]? = some a ∧ H a = some u ∧ Mut (some u) ∧ (∀ vs, u ≠ .tup vs) ∧ ∀ od, Rel { c with L := upd c.L a (.frz od u) } ρ G (μ.set n x) (upd H a (.frz od u)) := by
  cases e1 : μ[n]? with
  | none =>
    rw [e1] at h
    cases h
  | some y =>
    rw [e1] at h
    have h : lockD y = some x := h
    have hn : n < ρ.length := by rw [re.ln]; exact (List.getElem?_eq_some_iff.mp e1).1
    obtain ⟨a, ha⟩ : ∃ a, ρ[n]? = some a := ⟨ρ[n], List.getElem?_eq_getElem hn⟩
    have hlk : y.lkd = false := by
      unfold lockD at h
      split at h <;> first | rfl | cases h
    have r0 : ∀ od u, Rel { c with L := upd c.L a (.frz od u) } ρ G μ H := fun od u => relL re fun m b kv q1 q2 q3 => by
      refine upd_ne fun z => ?_
      subst z
      have := same_at re.nd q1 ha
      subst this
      rw [e1] at q2
      cases q2
      rw [hlk] at q3
      cases q3
    unfold lockD at h
    split at h
    · rename_i kvs
      cases h
      obtain ⟨hb, hg, ws, hH, hrep⟩ := re.cl n a _ ha e1
      exact ⟨a, .dK ws, ha, hH, trivial, fun vs z => by (cases z), fun od => (r0 od _).write ha hg hb (fun _ z => by cases z) ⟨hb, hg, ws, od, upd_same, upd_same, hrep⟩⟩
    · rename_i kvs
      cases h
      obtain ⟨hb, hg, ws, hH, hrep⟩ := re.cl n a _ ha e1
      exact ⟨a, .dT ws, ha, hH, trivial, fun vs z => by (cases z), fun od => (r0 od _).write ha hg hb (fun _ z => by cases z) ⟨hb, hg, ws, od, upd_same, upd_same, hrep⟩⟩
    · cases h
/-- .. and set free -/
theorem free_ok {c : Ct} {ρ' : List Addr} {G' H' : Hp} {μ2 : Sto} {n : Nat} {y : Cell} {a : Addr} {od : Obj} {u : HO} (ha' : ρ'[n]? = some a) (hu : ∀ vs, u ≠ .tup vs) (r' : Rel { c with L := upd c.L a (.frz od u) } ρ' G' μ2 H') (h : (μ2[n]?).bind freeD = some y) : H' a = some (.frz od u) ∧ Rel c ρ' G' (μ2.set n y) (upd H' a u) := by
  cases e3 : μ2[n]? with
  | none =>
    rw [e3] at h
    cases h
  | some z0 =>
    rw [e3] at h
    have h : freeD z0 = some y := h
    have hly : y.lkd = false := by
      unfold freeD at h
      split at h <;> cases h <;> rfl
    have fin : ∀ {H2 : Hp}, Rel { c with L := upd c.L a (.frz od u) } ρ' G' (μ2.set n y) H2 → Rel c ρ' G' (μ2.set n y) H2 := fun {H2} r2 => by
      have := relL (L' := c.L) r2 fun m b kv z1 z2 z3 => by
        refine (upd_ne fun z => ?_).symm
        subst z
        have := same_at r2.nd z1 ha'
        subst this
        rw [List.getElem?_set_self (List.getElem?_eq_some_iff.mp e3).1] at z2
        cases z2
        rw [hly] at z3
        cases z3
      exact this
    unfold freeD at h
    split at h
    · cases h
      obtain ⟨hb', hg', ws', od', q1, q2, q3⟩ := r'.cl n a _ ha' e3
      rw [show ({ c with L := upd c.L a (.frz od u) } : Ct).L a = some (.frz od u) from upd_same] at q1
      cases q1
      exact ⟨q2, fin (r'.write ha' hg' hb' hu ⟨hb', hg', _, upd_same, q3⟩)⟩
    · cases h
      obtain ⟨hb', hg', ws', od', q1, q2, q3⟩ := r'.cl n a _ ha' e3
      rw [show ({ c with L := upd c.L a (.frz od u) } : Ct).L a = some (.frz od u) from upd_same] at q1
      cases q1
      exact ⟨q2, fin (r'.write ha' hg' hb' hu ⟨hb', hg', _, upd_same, q3⟩)⟩
    · cases h
theorem ts_forK {tg : Tg} {f : FE} {body : FS} : ∀ Dn σ H, TSx K mg E (sForK tg f body) Dn σ H → tLock (tFor (iKeys (TX K mg E f)) (tg.g K) (TSx K mg E body)) Dn σ H := by
  rintro Dn σ H ⟨c, env, ρ, G, μ, hK, hm, re, eo, h⟩
  subst hK
  unfold sForK at h
  split at h
  case h_2 => exact fin_none h
  rename_i n e0
  unfold atK at h
  split at h
  case h_2 => exact fin_none h
  rename_i x ex
  obtain ⟨a, u, ha, hH, mu, hu, hrel⟩ := lock_ok re ex
  split at h
  case h_2 => exact fin_none h
  rename_i fl μ2 e2
  split at h
  case h_2 => exact fin_none h
  rename_i y ey
  refine ⟨a, u, hH, mu, fun od => ?_⟩
  refine txi_keys (n := n) _ _ _ (ts_for _ _ _ ⟨{ c with L := upd c.L a (.frz od u) }, env, ρ, G, μ.set n x, rfl, hm, hrel od, eo, ?_⟩)
  dsimp only at e2
  rw [e2]
  intro ρ' G' H' p' e' r'
  obtain ⟨q2, r3⟩ := free_ok (pre_get p' ha) hu r' ey
  have fin := h ρ' G' _ p' e' r3
  cases fl with
  | nx env' => exact fun σ' eo' => ⟨q2, fin σ' eo'⟩
  | rt d => exact fun v hv => ⟨q2, fin v hv⟩
theorem tx_compK {lv : Bool} {f : FE} {tg : Tg} {cond : Option FE} {elt : FE} {own : List Nat} (hown : ∀ i ∈ tg.slots, i ∈ own) :
    ∀ σ H Q, TX K mg E (fCompK lv f tg cond elt own) σ H Q → tLockE (tLc (iKeys (TX K mg E f)) (tg.g K) (ttOf K mg cond) (TX K mg E0 elt) own) σ H Q := by
  rintro σ H Q ⟨c, env, ρ, G, μ, hK, hm, re, eo, h⟩
  subst hK
  unfold fCompK at h
  split at h
  case h_2 => exact fin_none h
  rename_i n e0
  unfold atK at h
  split at h
  case h_2 => exact fin_none h
  rename_i x ex
  obtain ⟨a, u, ha, hH, mu, hu, hrel⟩ := lock_ok re ex
  split at h
  case h_2 => exact fin_none h
  rename_i d μ2 e2
  split at h
  case h_2 => exact fin_none h
  rename_i y ey
  refine ⟨a, u, hH, mu, fun od => ?_⟩
  have key := tx_comp (K := c.K) (mg := mg) (E := E) (lv := lv) (src := fun env μ => rb (f env μ) (dSrcK n)) (tg := tg) (cond := cond) (elt := elt) hown σ (upd H a (.frz od u)) (fun v H' => H' a = some (.frz od u) ∧ Q v (upd H' a u)) ⟨{ c with L := upd c.L a (.frz od u) }, env, ρ, G, μ.set n x, rfl, hm, hrel od, eo, by
    dsimp only at e2
    rw [e2]
    intro ρ' G' H' p' e' r' v hv
    obtain ⟨q2, r3⟩ := free_ok (pre_get p' ha) hu r' ey
    exact ⟨q2, h ρ' G' _ p' e' r3 v hv⟩⟩
  exact txi_keys (n := n) _ _ _ key
/-! d[k] of a locked dict -/
def dDixL (x y : D) (μ : Sto) : R D := match x with
  | .ref n => match μ[n]? with
    | some (.lkK kvs) => match keyD y with
      | some k => match valD kvs k with
        | some d => ok d μ
        | none => none
      | none => none
    | some (.lkT kvs) => match y with
      | .tup ks => match omap keyD ks with
        | some k => match valD kvs k with
          | some d => ok d μ
          | none => none
        | none => none
      | _ => none
    | _ => none
  | _ => none
theorem dixL_ok : OpD K E (fun x y H Q => ∃ a v, x = V.ref a ∧ DGet H a y (some v) ∧ Q v H) dDixL := by
  intro c ρ G H μ d e x y Q hK r hx hy h
  subst hK
  unfold dDixL at h
  split at h
  case h_2 => exact fin_none h
  rename_i n
  obtain ⟨a, rfl, ha⟩ := hx
  split at h
  · rename_i kvs e0
    obtain ⟨hb, hg, ws, od, hL, hH, hr⟩ := r.cl n a _ ha e0
    split at h
    case h_2 => exact fin_none h
    rename_i k ek
    split at h
    case h_2 => exact fin_none h
    rename_i d' ed
    rcases repK_val (k := k) hr with ⟨v1, v2⟩ | ⟨dd, vv, v1, v2, hrep⟩
    · rw [v1] at ed
      cases ed
    · rw [v1] at ed
      cases ed
      exact ⟨a, vv, rfl, .inl ⟨ws, k, .inr ⟨od, hH⟩, keyD_ok ek hy, v2.symm⟩, val_use rfl r hrep h⟩
  · rename_i kvs e0
    obtain ⟨hb, hg, ws, od, hL, hH, hr⟩ := r.cl n a _ ha e0
    split at h
    case h_2 => exact fin_none h
    rename_i ks
    split at h
    case h_2 => exact fin_none h
    rename_i k ek
    split at h
    case h_2 => exact fin_none h
    rename_i d' ed
    obtain ⟨b, vs, rfl, h3, h4⟩ := hy
    rcases repT_val (k := k) hr with ⟨v1, v2⟩ | ⟨dd, vv, v1, v2, hrep⟩
    · rw [v1] at ed
      cases ed
    · rw [v1] at ed
      cases ed
      refine ⟨a, vv, rfl, .inr ⟨ws, k, b, .inr ⟨od, hH⟩, rfl, ?_, v2.symm⟩, val_use rfl r hrep h⟩
      rw [← keysD_ok ek h4]
      exact r.gh _ _ h3
  · exact fin_none h
end
end Lv
set_option Elab.async false
set_option linter.all false
set_option maxRecDepth 100000
set_option autoImplicit false
/-! exceptions with fields: C.__init__ called by the class's base's name; made, kept, raised, read -/
namespace Lv
open PySem PySem.Spec PyProof.Rows L2 ClX
/-- B.__init__ is ValueError's: B a class of the text -/
structure VeB (K : PySem.W.Frag) (B : Addr) : Prop where
  r : CRead K B (.type "type")
  i : PySem.W.findCls K (.ref B) (.type "type") "__init__" = some (.val (.builtin "ValueError.__init__"))
theorem pe_ginit {X : Cx} {B : Addr} {g : Str} {e : Expr} {es : List Expr} {ta : TA} {p1 p2 pos : Pos} {pl : Sem Bool} (hg : Gl X g) (hm : X.mg g = some (.ref B)) (hdb : (g == ("__debug__" : Str)) = false) (V : VeB X.K B) (ha : PA X (e :: es) ta)
    (hc : eval (.Call (.Attribute (.Name g p1) "__init__" p2) (e :: es) [] pos) X.env = (do
      let o ← eval (.Name g p1) X.env; standAt p2.atName
      let (f, fi) ← holding [o] (getMethod o "__init__" pl)
      callWith pos f fi (backTo pos (starEach (e :: es) X.env)) (backToKw pos (keywordEach [] X.env))))
    (hst : starEach (e :: es) X.env = (false, eval e X.env) :: starEach es X.env) (hpl : (backTo pos (starEach es X.env)).any (·.1) = false) :
    PE X (.Call (.Attribute (.Name g p1) "__init__" p2) (e :: es) [] pos) (tVeI X.K ta) := by
  refine ⟨fun pins s σ H Q I w => ?_⟩
  refine PySem.W.methodCall_KW (ld_glob I hg hm ?_ hdb) hc
  refine PySem.W.method_cls I.kIn V.r.ga (PySem.W.cls_value I.kIn V.r.rd V.i (by decide +kernel) ?_)
  have I0 := I.tok (s.toks + 1)
  show wpAny _ _ (callWith pos (Value.builtin "ValueError.__init__") [] (backTo pos (starEach (e :: es) X.env)) []) _ _ _
  refine PyProof.Rows.callWith_method1 (thn (ha.run pos pins _ σ H _ (I.tok _) w) fun us s1 ⟨vs, H1, I1, r1, a, C, ws, ev, hl, T, ea, q⟩ => ?_) hst hpl
  subst ev
  cases r1 with
  | @cons _ u0 _ ur ra rw' =>
    obtain rfl : u0 = Value.ref a := ra
    refine oinit_ok T I1 ea ?_ fun s' J => ⟨.non, H1, J, rfl, q⟩
    rw [← Paired.length rw', sizeLine_eq]; omega
/-! an exception that is made and kept -/
def tMkX (D : Addr) (sp : Sp) (ta : TA) : TE := fun σ H Q => ta σ H fun vs H1 => vs.length ≤ 1000 ∧ ∀ a, H1 a = none → sp (.ref a :: vs) (upd H1 a (exo a D none)) (fun v H2 => v = .non ∧ Q (.ref a) H2) (fun _ _ _ => False)
theorem pe_mkx {X : Cx} {CX : CXT} {x : Str} {D fI : Addr} {k : Nat} {fd : FuncData} {ps : List Str} {sp : Sp} {e : Expr} {es : List Expr} {ta : TA} {p pos : Pos} (T : OexC X.K D) (iC : PySem.W.findIn X.K (.ref D) "__init__" = some (some (.ref fI))) (tI : PySem.W.typeIn X.K (.ref fI) = some (.type "function"))
    (F1 : FnOk X.prog X.w X.K X.mg X.base CX k fI fd ps sp) (hr : Room (k + 1) X.A) (hb : Binds X.K fd ps []) (hx : Passes CX X (fun _ _ _ => False)) (hg : Gl X x) (hm : X.mg x = some (.ref D)) (ha : PA X (e :: es) ta)
    (hdb : (x == ("__debug__" : Str)) = false) (hst : starEach (e :: es) X.env = (false, eval e X.env) :: starEach es X.env) (hpl : (backTo pos (starEach es X.env)).any (·.1) = false) :
    PE X (.Call (.Name x p) (e :: es) [] pos) (tMkX D sp ta) := by
  refine ⟨fun pins s σ H Q I w => ?_⟩
  obtain ⟨nm, q, N, bs, bm, sn, sub, ab, col, dd, k0, k1, k2, k3, k5, hC, hbm⟩ := T.cls
  refine wpAny_Call_Name_kw (ld_glob I hg hm ?_ hdb)
  refine PySem.W.callWith_K (h₀ := X.base) I.ok.mod.kin T.kC (thn (ha.run pos pins s σ H _ I w) fun us s1 ⟨vs, H1, I1, r1, hz, q1⟩ => ⟨I1.kIn, ?_⟩) hst hpl
  show wpAny _ _ (call (.ref D) us) _ _ _
  obtain ⟨hp, g, dr, tk, os⟩ := s1
  have hsz : hp.objs.size ≤ hp.objs.size + 1 := Nat.le_succ _
  have hq := q1 (hp.objs.size + 1) (I1.hok.fresh hsz)
  have kk : ∀ b o, hp.get? b = some o → ((hp.push (PySem.W.kdv_tup us)).push (PySem.HandSPX.excO D hp.objs.size)).get? b = some o := fun b o z => Heap.get?_push_of_some _ (Heap.get?_push_of_some _ z)
  have hget : ((hp.push (PySem.W.kdv_tup us)).push (PySem.HandSPX.excO D hp.objs.size)).get? (hp.objs.size + 1) = some (PySem.HandSPX.excO D hp.objs.size) := by heap_get
  have I2 : Inv X pins σ (upd H1 (hp.objs.size + 1) (exo (hp.objs.size + 1) D none)) ⟨(hp.push (PySem.W.kdv_tup us)).push (PySem.HandSPX.excO D hp.objs.size), g, dr, tk, os⟩ :=
    I1.laid (t' := tk) (a := hp.objs.size + 1) (o := exo (hp.objs.size + 1) D none) (h' := (hp.push (PySem.W.kdv_tup us)).push (PySem.HandSPX.excO D hp.objs.size)) kk hsz (exo_ok hget)
  have r2 : Vals (V.ref (hp.objs.size + 1) :: vs) (Value.ref (hp.objs.size + 1) :: us) := .cons rfl r1
  have hl : (Value.ref (hp.objs.size + 1) :: us).length = ps.length := by rw [← F1.len _ _ _ _ hq, ← r2.length]
  have hus : us.length ≤ sizeLine := by rw [← Paired.length r1, sizeLine_eq]; omega
  refine wpAny_call (PySem.HandSPX.call_own F.excBase_ValueError (fun Y => PySem.HandSPX.refsVE_contains Y bm hbm) (I1.kIn _ _ hC) (PySem.W.looks_findIn I1.kIn iC) (fun self => PySem.W.bind_fn I1.kIn self tI) hus
    (codeAny_mono (F1.run _ X.stack _ _ ⟨Value.ref (hp.objs.size + 1) :: us, []⟩ (Value.ref (hp.objs.size + 1) :: us) _ _ (fun _ _ _ => False) (hr.make D us []) (I2.env0.make D us []) (by
      have z := hb _ (Value.ref (hp.objs.size + 1) :: us) I2.kIn (by rw [List.append_nil]; exact hl)
      rw [List.append_nil] at z
      exact z) r2 hq) fun r s' hq' => ?_))
  cases r with
  | error er => exact hx pins σ _ _ er s' I2 hq'
  | ok fl =>
    cases fl with
    | ret u =>
      obtain ⟨v, H2, os2, bare2, un2, hok2, rv, q2⟩ := hq'
      obtain ⟨ev, q2⟩ := q2
      subst ev
      exact ⟨rv, .ref (hp.objs.size + 1), H2, I2.call' (ch := []) os2 un2 hok2 bare2 (fun b z => absurd z (by simp)), rfl, q2⟩
    | next => exact False.elim hq'
    | brk => exact False.elim hq'
    | cont => exact False.elim hq'
/-! its fields -/
def tAtx (K : PySem.W.Frag) (f : Str) (te : TE) : TE := fun σ H Q => te σ H fun x H1 => ∃ (a C dx : Addr) (fs : List (Str × V)) (v : V), x = .ref a ∧ XfC K C ∧ PySem.W.findIn K (.ref C) f = some none ∧ H1 a = some (exo a C (some dx)) ∧ H1 dx = some (exd dx fs) ∧ fs.lookup f = some v ∧ Q v H1
theorem pe_atx {X : Cx} {e : Expr} {te : TE} {pos : Pos} {f : Str} (he : PE X e te) (hb : attributeBase e f X.env (eval e X.env) = eval e X.env) : PE X (.Attribute e f pos) (tAtx X.K f te) := by
  refine ⟨fun pins s σ H Q I w => attr_of hb (thn (he.run pins s σ H _ I w) fun u s1 hh => ?_)⟩
  obtain ⟨x, H1, I1, rx, a, C, dx, fs, v, ex, T, hno, ea, ed, l, q⟩ := hh
  subst ex
  obtain rfl : u = Value.ref a := rx
  obtain ⟨t1, ho⟩ := exo_at I1.hok ea
  obtain ⟨mA, hns, rel⟩ := exd_at I1.hok ed
  obtain ⟨od, hod, hl⟩ := lookIn_ns hns
  obtain ⟨u, hu, ru⟩ := RelO.some_of (v := v) (o := mA f) (by rw [← l]; exact rel f)
  have J : PySem.W.InstAt s1.heap a _ C (some od) := ⟨ho, rfl, rfl, hod⟩
  exact HandSPX.exc_get I1.kIn J T.ga T.gg T.exC (PySem.W.findObj_own T.hdC hno rfl (by rw [hl, hu])) (handed_of ru) ⟨v, H1, I1.tok _, ru, q⟩
/-! several clauses, each with a name -/
/-- as wAs, clause after clause: the class, the name's slot, the suite's wish -/
def wAsM (K : PySem.W.Frag) (Wout : WX) (D : Ends) : List (Value × Nat × (Addr → Value → Option Addr → TS)) → WX
  | [] => Wout
  | (c, i, ts) :: r => wAs K c i ts (wAsM K Wout D r) D
inductive HdA (X : Cx) : List ExceptHandler → List (Value × Nat × (Addr → Value → Option Addr → TS)) → Prop
  | nil : HdA X [] []
  | cons {x n : Str} {c : Value} {i : Nat} {ts : Addr → Value → Option Addr → TS} {b0 : Stmt} {su : List Stmt} {np hp : Pos} {hds : List ExceptHandler} {l : List (Value × Nat × (Addr → Value → Option Addr → TS))} : Names X x c → X.N[i]? = some n → X.env.kindOf n = some .local →
      (∀ (a : Addr) (oe : Obj) (cl : Value) (d : Option Addr) (pn : List (Addr × Obj)), Zc cl d oe → (∃ vs, oe.data = .fields vs) → PSs (X.suite a ((a, oe) :: pn)) (b0 :: su) (ts a cl d)) → HdA X hds l →
      HdA X (.ExceptHandler (some (.Name x np)) (some n) (b0 :: su) hp :: hds) ((c, i, ts) :: l)
theorem ps_try_asM {X : Cx} {body : List Stmt} {h0 : ExceptHandler} {hds : List ExceptHandler} {l : List (Value × Nat × (Addr → Value → Option Addr → TS))} {pos : Pos} {tb : WX → TS} {Wout : WX} (hst : X.stack = X.env :: X.outer) (hfr : X.env.frame = some X.env.locals) (hN : X.N.Nodup) (tk : Takes X Wout)
    (hb : ∀ (W : WX) (pn : List (Addr × Obj)) (xe : Value → Shared → Prop), Takes (X.tr pn xe) W → PassesOwn (model X.prog X.w) X.A X.env xe → PSs (X.tr pn xe) body (tb W)) (hh : HdA X (h0 :: hds) l) :
    PS X (.Try body (h0 :: hds) [] [] pos) (fun D σ H => tb (wAsM X.K Wout D l) D σ H) := by
  refine ⟨fun pins s σ H D I w0 => wpAny_Try_except ?_⟩
  have ok := I.ok
  have hF : X.A.frames = some (X.env :: X.outer) := ok.frames.trans (congrArg some hst)
  refine wpAny_mono ((hb (wAsM X.K Wout D l) (X.pn ++ pins) (fun e t1 => wpAny (model X.prog X.w) X.A (noteFrame e X.env) (fun _ t2 => wpAny (model X.prog X.w) X.A (setFlight e none) (fun _ t3 => wpAny (model X.prog X.w) X.A (handleBy e X.env (h0 :: hds)) (SP X pins D) X.xe t3) X.xe t2) X.xe t1) (fun u s2 xx => ?_) PassesOwn.looking).run [] s σ H D (I.toTry _) w0) (fun f s1 hq => ?_) (fun e s1 he => he)
  case refine_2 =>
    cases f with
    | next => obtain ⟨σ2, H2, J, q⟩ := hq; exact wpAny_execs_nil ⟨σ2, H2, J.ofTry ok, q⟩
    | brk => obtain ⟨σ2, H2, J, q⟩ := hq; exact ⟨σ2, H2, J.ofTry ok, q⟩
    | cont => obtain ⟨σ2, H2, J, q⟩ := hq; exact ⟨σ2, H2, J.ofTry ok, q⟩
    | ret u => obtain ⟨v, σ2, H2, J, r, q⟩ := hq; exact ⟨v, σ2, H2, J.ofTry ok, r, q⟩
  obtain ⟨a, B, sI, pins1, σ1, H1, cl, d, rfl, J0, nb, up, sky, na, os, ag, w⟩ := xx
  have J : Inv X pins σ1 H1 sI := J0.ofTry ok
  have sky1 : Sky B (X.env :: X.outer) a (Zc cl d) X.env.locals s2.heap := hst ▸ sky
  show wpAny (model X.prog X.w) X.A (noteFrame (.ref a) X.env) _ _ _
  refine Sky.land Zc.steady hF hfr sky1 fun h3 fl3 up3 => ?_
  have J3 : Inv X pins σ1 H1 { s2 with heap := h3 } := J.landed nb fl3.1 (up.trans up3) os ag
  obtain ⟨oe3, vs3, he3, hz3, hd3⟩ := fl3.there
  have away : a ∉ L2.frs (X.env :: X.outer) := fun hm => by
    obtain ⟨_, o1, e1, hnf⟩ := fl3.2.2.1.mem hm
    have z := he3.symm.trans e1; cases z
    exact hnf _ hd3
  have nL : a ≠ X.env.locals := fun z => away (List.mem_filterMap.mpr ⟨X.env, List.mem_cons_self, hfr.trans (congrArg some z.symm)⟩)
  have nF : a ∉ X.fs := fun hm => by
    obtain ⟨e, he, q⟩ := List.mem_filterMap.mp hm; exact away (List.mem_filterMap.mpr ⟨e, List.mem_cons_of_mem _ he, q⟩)
  have S3 := J3.suite he3 hd3 na nL nF
  have LT : PySem.W.Looks (model X.prog X.w) h3 (typeOf (.ref a)) cl := fun A Q E s k q => wpAny_typeOf_ref (k _ _ he3) (hz3.1 ▸ q)
  have go : ∀ {hs' : List ExceptHandler} {l' : List (Value × Nat × (Addr → Value → Option Addr → TS))}, HdA X hs' l' → wAsM X.K Wout D l' cl d σ1 H1 → wpAny (model X.prog X.w) X.A (handleBy (.ref a) X.env hs') (SP X pins D) X.xe { s2 with heap := h3 } := by
    intro hs' l' hk
    induction hk with
    | nil =>
      intro w
      refine wpAny_handleBy_nil ?_
      obtain ⟨k1, k2, k3, oe, vs, T, oT, ts', he, hz, hd, h1, hr⟩ := id fl3
      unfold PySem.passOn
      refine wpAny_bind (wpAny_field he hd h1 ?_)
      rw [if_neg (show ¬ ((Value.ref T == Value.none) = true) by simp)]
      have out : wpAny (model X.prog X.w) X.A (setFlight (.ref a) X.env.frame) (fun _ s4 => wpAny (model X.prog X.w) X.A (throw (.ref a) : Sem Flow) (SP X pins D) X.xe s4) X.xe { s2 with heap := h3 } := by
        rw [hfr]
        exact HandSPX.setFlight_upZ fl3 fun h4 hh4 up4 => wpAny_throw (tk _ _ ⟨a, B, sI, pins, σ1, H1, cl, d, rfl, J, nb, (up.trans up3).trans up4, .inr (.inr (hst ▸ hh4)), na, os, ag, w⟩)
      first | exact wpAny_bind (wpAny_pure (wpAny_bind out)) | exact wpAny_bind out
    | @cons x n c i ts b0 su np hp hds1 l1 hc hi hln hsu r ih =>
      intro w
      obtain ⟨b, hb1, yes, no⟩ := w
      refine wpAny_handleBy_cons (codeAny_handlers_test ?_) (by intro q; cases q)
      have LM := PySem.W.exm_one (M := model X.prog X.w) J3.kIn LT hb1
      have test : ∀ {Q E : Value → Shared → Prop}, Q c { s2 with heap := h3 } → wpAny (model X.prog X.w) (X.A.mark (some (.ref a))) (eval (.Name x np) X.env) Q E { s2 with heap := h3 } := fun {Q E} q => by
        obtain ⟨hg, hdb, hm | ⟨hm, hv, hnn⟩⟩ := hc
        · exact ld_glob (X := X.suite a ((a, oe3) :: (X.pn ++ pins))) S3 hg hm q hdb
        · exact ld_blt (X := X.suite a ((a, oe3) :: (X.pn ++ pins))) S3 hg hm hv q hnn hdb
      refine test (LM.here ?_)
      cases b with
      | false =>
        show wpAny _ X.A (handleBy (.ref a) X.env hds1) _ _ _
        exact ih (no rfl)
      | true =>
        refine codeAny_handlers_suite_as (HandSPX.lands_againZ fl3 fun h4 fl4 up4 => ?_)
        have J4 : Inv X pins σ1 H1 { s2 with heap := h4 } := J.landed nb fl4.1 ((up.trans up3).trans up4) os ag
        obtain ⟨oe4, vs4, he4, hz4, hd4⟩ := fl4.there
        have S4 := J4.suite he4 hd4 na nL nF
        refine store_ok (X := X.suite a ((a, oe4) :: (X.pn ++ pins))) (v := .ref a) S4 hN hi (.inl hln) rfl (fun s5 S5 => ?_) (.inr hln)
        refine wpAny_mono ((hsu a oe4 cl d (X.pn ++ pins) hz4 ⟨_, hd4⟩).run [] s5 _ H1 _ S5 (yes rfl a na)) (fun f s6 hq => ?_) (fun _ _ z => False.elim z)
        have fin : ∀ {σ6 : L2.St} {H6 : Hp} {Q : Shared → Prop}, Inv (X.suite a ((a, oe4) :: (X.pn ++ pins))) [] σ6 H6 s6 → (∀ s7, Inv X pins (σ6.set i none) H6 s7 → Q s7) → wpAny (model X.prog X.w) X.A (do bindName X.env n .none; unbindBehindTheSuite X.env n hp) (fun _ s7 => Q s7) X.xe s6 := fun {σ6 H6 Q} S6 hq => gone_ok (S6.unsuite ok) hN hi hln hq
        cases f with
        | next => obtain ⟨σ6, H6, S6, q6⟩ := hq; exact fin S6 fun s7 J7 => ⟨_, _, J7, q6⟩
        | brk => obtain ⟨σ6, H6, S6, q6⟩ := hq; exact fin S6 fun s7 J7 => ⟨_, _, J7, q6⟩
        | cont => obtain ⟨σ6, H6, S6, q6⟩ := hq; exact fin S6 fun s7 J7 => ⟨_, _, J7, q6⟩
        | ret u => obtain ⟨v6, σ6, H6, S6, r6, q6⟩ := hq; exact fin S6 fun s7 J7 => ⟨_, _, _, J7, r6, q6⟩
  exact go hh w
/-! a class of exceptions with fields: what its __init__ does -/
def mkFs {α : Type} (fns : List Str) (xs : List α) : List (Str × α) := (fns.zip xs).reverse
def spXi (K : PySem.W.Frag) (D : Addr) (fns : List Str) : Sp := fun vs H Q _ => ∃ (a : Addr) (ws : List V), vs = .ref a :: ws ∧ ws.length = fns.length ∧ H a = some (exo a D none) ∧ ∀ dx, H dx = none → dx ≠ a → Q .non (upd (upd H dx (exd dx (mkFs fns ws))) a (exo a D (some dx)))
structure XiAt (P : Program) (w : World) (K : PySem.W.Frag) (mg : Str → Option Value) (base : Heap) (CX : CXT) (lv : Nat) (cls : Str) (fns : List Str) : Prop where
  ex : ∃ (D f : Addr) (fd : FuncData) (ps : List Str) (k : Nat), mg cls = some (.ref D) ∧ OexC K D ∧ XfC K D ∧ (∀ g ∈ fns, PySem.W.findIn K (.ref D) g = some none) ∧ PySem.W.findIn K (.ref D) "__init__" = some (some (.ref f)) ∧ PySem.W.typeIn K (.ref f) = some (.type "function") ∧ Binds K fd ps [] ∧ FnOk P w K mg base CX k f fd ps (spXi K D fns) ∧ k + 1 ≤ lv
  ne : fns ≠ []
  few : fns.length ≤ 100
theorem XiAt.mono {P : Program} {w : World} {K : PySem.W.Frag} {mg : Str → Option Value} {base : Heap} {CX : CXT} {lv lv' : Nat} {cls : Str} {fns : List Str} (h : XiAt P w K mg base CX lv cls fns) (l : lv ≤ lv') : XiAt P w K mg base CX lv' cls fns := by
  obtain ⟨⟨D, f, fd, ps, k, h1, h2, h3, h4, h5, h6, h7, h8, h9⟩, ne, few⟩ := h
  exact ⟨⟨D, f, fd, ps, k, h1, h2, h3, h4, h5, h6, h7, h8, Nat.le_trans h9 l⟩, ne, few⟩
/-- the dict of an exception made -/
theorem xi_heap {H1 : Hp} {a dx D : Addr} {fs : List (Str × V)} (ha : H1 a = none) (hd : dx ≠ a) : upd (del (upd (upd (upd H1 a (exo a D none)) dx (exd dx fs)) a (exo a D (some dx))) a) dx (.xd fs) = upd H1 dx (.xd fs) := by
  funext b
  by_cases e : b = dx
  · rw [e, upd_same, upd_same]
  · rw [upd_ne e, upd_ne e]
    by_cases e2 : b = a
    · rw [e2, del_same, ha]
    · rw [del_ne e2, upd_ne e2, upd_ne e, upd_ne e2]
def dMkE (cls : Str) (fns : List Str) (ds : List D) (μ : Sto) : R D := if (ds.all scalD && decide (ds.length = fns.length)) = true then ok (.ref μ.length) (μ ++ [.exn cls (mkFs fns ds)]) else none
def dAttrE (f : Str) (d : D) (μ : Sto) : R D := match d with
  | .ref n => match μ[n]? with
    | some (.exn _ fs) => match fs.lookup f with
      | some x => ok x μ
      | none => none
    | _ => none
  | _ => none
def dRaise {α : Type} (cls : Str) (fns : List Str) (ds : List D) (μ : Sto) : R α := if (ds.all scalD && decide (ds.length = fns.length)) = true then some (.error (⟨cls, mkFs fns ds⟩, μ)) else none
theorem scal_v {K : PySem.W.Frag} {B : Hp} {ρ : List Addr} {G : Hp} {d : D} {v : V} (h : scalD d = true) (r : Rep K B ρ G d v) : v = vS d := by
  cases d <;> first | exact r | cases h
theorem scal_r {K : PySem.W.Frag} {B : Hp} {ρ : List Addr} {G : Hp} {d : D} (h : scalD d = true) : Rep K B ρ G d (vS d) := by
  cases d <;> first | rfl | cases h
theorem scal_vs {K : PySem.W.Frag} {B : Hp} {ρ : List Addr} {G : Hp} : ∀ {ds : List D} {vs : List V}, ds.all scalD = true → Reps K B ρ G ds vs → vs = ds.map vS
  | [], _, _, r => r
  | d :: ds, _, h, ⟨v, s, e, r1, r2⟩ => by
    rw [List.all_cons, Bool.and_eq_true] at h
    rw [e, scal_v h.1 r1, scal_vs h.2 r2]
    rfl
theorem mkFs_v (fns : List Str) (ds : List D) : mkFs fns (ds.map vS) = vFs (mkFs fns ds) := by
  unfold mkFs vFs
  rw [List.map_reverse, List.zip_map_right]
  rfl
theorem mkFs_in {α : Type} {fns : List Str} {xs : List α} {p : Str × α} (h : p ∈ mkFs fns xs) : p.1 ∈ fns ∧ p.2 ∈ xs := by
  unfold mkFs at h
  exact List.of_mem_zip (List.mem_reverse.mp h)
theorem vFs_look {fs : List (Str × D)} {f : Str} {d : D} (h : fs.lookup f = some d) : (vFs fs).lookup f = some (vS d) := by
  induction fs with
  | nil => cases h
  | cons p r ih =>
    obtain ⟨g, x⟩ := p
    unfold vFs
    rw [List.map_cons]
    rw [List.lookup_cons] at h ⊢
    cases q : f == g with
    | true =>
      rw [q] at h
      cases h
      rfl
    | false =>
      rw [q] at h
      exact ih h
theorem look_in {α : Type} {fs : List (Str × α)} {f : Str} {d : α} (h : fs.lookup f = some d) : (f, d) ∈ fs := by
  induction fs with
  | nil => cases h
  | cons p r ih =>
    obtain ⟨g, x⟩ := p
    rw [List.lookup_cons] at h
    cases q : f == g with
    | true =>
      rw [q] at h
      cases h
      rw [beq_iff_eq.mp q]
      exact List.mem_cons_self
    | false =>
      rw [q] at h
      exact List.mem_cons_of_mem _ (ih h)
section
variable {P : Program} {w : World} {K : PySem.W.Frag} {mg : Str → Option Value} {base : Heap} {CX : CXT} {lv : Nat} {cls : Str} {fns : List Str} {E : XK}
/-- raise C(..) -/
theorem tx_raiseF {D : Addr} {f2 : FEs} (hm : mg cls = some (.ref D)) (hn : fns ≠ []) (hf : fns.length ≤ 100) : ∀ (Dn : Ends) (σ : L2.St) (H : Hp), TSx K mg E (fun env μ => rb (f2 env μ) (dRaise cls fns)) Dn σ H → tMkO D (spXi K D fns) [] (TXs K mg E f2) σ H fun cl da H' => E cl da H' := by
  rintro Dn σ H ⟨c, env, ρ, G, μ, hK, hm', re, eo, h⟩
  subst hK hm'
  refine txs_use rfl rfl re eo h fun ds vs ρ1 G1 μ1 H1 p1 e1 r1 eo1 hv h1 => ?_
  unfold dRaise at h1
  split at h1
  case isFalse => exact fin_none h1
  rename_i hc
  rw [Bool.and_eq_true] at hc
  have hlen := of_decide_eq_true hc.2
  have hvs := scal_vs hc.1 hv
  have hl : vs.length = fns.length := by rw [← hv.length, hlen]
  refine ⟨by omega, fun a ha => ⟨a, vs, by rw [List.append_nil], hl, upd_same, fun dx hd hne => ⟨rfl, dx, mkFs fns vs, upd_same, ?_, ?_, ?_⟩⟩⟩
  · rw [upd_ne hne, upd_same]
  · rw [upd_ne hne] at hd
    exact hd
  · rw [xi_heap ha hne]
    rw [upd_ne hne] at hd
    have h2 : ∀ ρ' G' H' cl da, ρ1 <+: ρ' → Same G1 G' → Rel c ρ' G' μ1 H' → ErrOk c.mg ⟨cls, mkFs fns ds⟩ cl da G' → E cl da H' := h1
    refine h2 ρ1 (upd G1 dx (.xd (mkFs fns vs))) _ _ _ (List.prefix_refl _) (same_upd (r1.none_g hd)) (r1.frozen hd) ⟨hm, .inr ⟨dx, rfl, fun z => ?_, ?_⟩⟩
    · have z' := congrArg List.length z
      have hn' : fns.length ≠ 0 := fun q => hn (List.length_eq_zero_iff.mp q)
      simp only [mkFs, List.length_reverse, List.length_zip, List.length_nil] at z'
      omega
    · rw [upd_same, hvs, mkFs_v]
/-- C(..) made and kept -/
theorem tx_mkE {D : Addr} {f2 : FEs} (hm : mg cls = some (.ref D)) (hf : fns.length ≤ 100) (hX : XfC K D) (hno : ∀ g ∈ fns, PySem.W.findIn K (.ref D) g = some none) : ∀ (σ : L2.St) (H : Hp) (Q : VK), TX K mg E (fun env μ => rb (f2 env μ) (dMkE cls fns)) σ H Q → tMkX D (spXi K D fns) (TXs K mg E f2) σ H Q := by
  rintro σ H Q ⟨c, env, ρ, G, μ, hK, hm', re, eo, h⟩
  subst hK hm'
  refine txs_use rfl rfl re eo h fun ds vs ρ1 G1 μ1 H1 p1 e1 r1 eo1 hv h1 => ?_
  unfold dMkE at h1
  split at h1
  case isFalse => exact fin_none h1
  rename_i hc
  rw [Bool.and_eq_true] at hc
  have hlen := of_decide_eq_true hc.2
  have hvs := scal_vs hc.1 hv
  have hl : vs.length = fns.length := by rw [← hv.length, hlen]
  refine ⟨by omega, fun a ha => ⟨a, vs, rfl, hl, upd_same, fun dx hd hne => ⟨rfl, ?_⟩⟩⟩
  rw [upd_ne hne] at hd
  have eH : upd (upd (upd H1 a (exo a D none)) dx (exd dx (mkFs fns vs))) a (exo a D (some dx)) = upd (upd H1 dx (exd dx (mkFs fns vs))) a (exo a D (some dx)) := by
    funext b
    by_cases e : b = a
    · rw [e, upd_same, upd_same]
    · by_cases e2 : b = dx
      · rw [e2, upd_ne hne, upd_same, upd_ne hne, upd_same]
      · rw [upd_ne e, upd_ne e2, upd_ne e, upd_ne e, upd_ne e2]
  rw [eH]
  have r2 := r1.frozen (o := exd dx (mkFs fns vs)) hd
  have ha2 : upd H1 dx (exd dx (mkFs fns vs)) a = none := by rw [upd_ne (Ne.symm hne)]; exact ha
  have r3 := r2.frozen (o := exo a D (some dx)) ha2
  have na : a ∉ ρ1 := r1.none_r ha
  have hx : ExnAt c.K c.mg (upd (upd G1 dx (exd dx (mkFs fns vs))) a (exo a D (some dx))) cls (mkFs fns ds) a := by
    refine ⟨D, dx, hm, hX, fun g hg => ?_, fun p hp => ?_, upd_same, ?_⟩
    · obtain ⟨p, hp, rfl⟩ := List.mem_map.mp hg
      exact hno _ (mkFs_in hp).1
    · exact List.all_eq_true.mp hc.1 _ (mkFs_in hp).2
    · rw [upd_ne hne, upd_same, hvs, mkFs_v]
  have r4 := r3.tell (p := a) (x := .exn cls (mkFs fns ds)) na (r1.none_p ha) hx
  refine Fin.ok_at (List.prefix_append _ _) ((same_upd (r1.none_g hd)).trans (same_upd (r2.none_g ha2))) r4 h1 _ ⟨a, rfl, ?_⟩
  rw [← r1.ln, List.getElem?_append_right (Nat.le_refl _), Nat.sub_self]
  rfl
/-- x.f of an exception kept -/
theorem tx_attrE {f : Str} {fa : FE} : ∀ (σ : L2.St) (H : Hp) (Q : VK), TX K mg E (fun env μ => rb (fa env μ) (dAttrE f)) σ H Q → tAtx K f (TX K mg E fa) σ H Q := by
  rintro σ H Q ⟨c, env, ρ, G, μ, hK, hm', re, eo, h⟩
  subst hK hm'
  refine tx_use rfl rfl re eo h fun d v ρ1 G1 μ1 H1 p1 e1 r1 eo1 hv h1 => ?_
  unfold dAttrE at h1
  split at h1
  case h_2 => exact fin_none h1
  rename_i n
  obtain ⟨a, rfl, ha⟩ := hv
  split at h1
  case h_2 => exact fin_none h1
  rename_i cl fs e0
  split at h1
  case h_2 => exact fin_none h1
  rename_i x ex
  obtain ⟨C, dx, q1, q2, q3, q4, q5, q6⟩ := r1.cl n a _ ha e0
  have hin := look_in ex
  exact ⟨a, C, dx, vFs fs, vS x, rfl, q2, q3 f (List.mem_map.mpr ⟨_, hin, rfl⟩), r1.gh _ _ q5, r1.gh _ _ q6, vFs_look ex, val_use rfl r1 (scal_r (q4 _ hin)) h1⟩
end
/-! what the written part must say, as a Bool -/
theorem veB_ok {K : PySem.W.Frag} {B : Addr} (h1 : PySem.W.readsIn K B (.type "type") = true) (h2 : PySem.W.specialIn K (.ref B) "__getattribute__" = some (some (.builtin "type.__getattribute__"))) (h3 : veB K B = true) : VeB K B := by
  refine ⟨⟨h1, h2⟩, ?_⟩
  unfold veB at h3
  split at h3
  · rename_i z e
    rw [e, of_decide_eq_true h3]
  · cases h3
theorem oexB_ok {K : PySem.W.Frag} {C : Addr} (h : oexB K C = true) (sa : PySem.W.findIn K (.ref C) "__setattr__" = some (some (.builtin "object.__setattr__"))) (hb : PySem.W.subIn K (.ref C) (.type "BaseException") = some true) (ht : PySem.W.typeIn K (.ref C) = some (.type "type")) (hk : PySem.W.keepIn K (.ref C) = true) : OexC K C := by
  refine ⟨?_, sa, hb, ht, hk⟩
  unfold oexB at h
  split at h
  case h_2 => cases h
  rename_i dd cd sl ho
  split at h
  case h_2 => cases h
  rename_i C2 bm k0 k1 k2 k3 z k5 hm hs
  obtain ⟨h, h5⟩ := Bool.and_eq_true_iff.mp h
  obtain ⟨h, h4⟩ := Bool.and_eq_true_iff.mp h
  obtain ⟨h, h3⟩ := Bool.and_eq_true_iff.mp h
  obtain ⟨h1, h2⟩ := Bool.and_eq_true_iff.mp h
  have e1 := of_decide_eq_true h1
  have e2 := of_decide_eq_true h2
  subst e1 e2
  obtain ⟨nm, bs, mro, ns, qn, hd, sn, sb, ab, col, del⟩ := cd
  dsimp only at hm h3 h4
  have e3 : del = false := by simpa using h3
  subst hm e3 h4
  obtain ⟨l⟩ := sl
  have e4 : l = [k0, k1, k2, k3, some (.builtin "ValueError.__new__"), k5] := hs
  subst e4
  exact ⟨nm, qn, ns, bs, bm, sn, sb, ab, col, dd, k0, k1, k2, k3, k5, ho, h5⟩
end Lv
set_option Elab.async false
set_option linter.all false
set_option maxRecDepth 100000
set_option autoImplicit false
/-! the mini syntax: its evaluator; its check against the text's trees -/
namespace Lv
open PySem PySem.Spec PyProof.Rows L2
mutual
inductive X where
  | var (i : Nat) | int (i : Int) | bl (b : Bool) | non | str (x : Str)
  | cst (nm : Str) (d : D)
  | bin (b : Bop) (lv : Bool) (x y : X) | neg (x : X)
  | cmp (k : Cmp) (x y : X) | chain (k k' : Cmp) (x y z : X) | isN (x : X) | notN (x : X)
  | and (xs : List X) | or (xs : List X) | not (x : X)
  | lst (lv : Bool) (xs : List X) | tup (xs : List X)
  | ix (x y : X) | slice (lv : Bool) (x : X) (lo hi : List X)
  | call (f : Nat) (dn : Nat) (fz : Bool) (xs : List X)
  | bi (b : BI) (lv : Bool) (xs : List X)
  | isi (t : Ty) (x : X)
  | mth (m : Mth) (x : X) (xs : List X)
  | comp (lv : Bool) (src : Src) (tg : Tg) (cond : List X) (elt : X) (own : List Nat)
  | frz (x : X)
  | rev (lv : Bool) (x : X)
  | isB (neg : Bool) (x : X) (b : Bool)
  | lrg (lv : Bool) (xs : List X)
  | lset (x : X)
  | srtP (lv : Bool) (xs : List X)
  | lrg3 (lv : Bool) (xs : List X)
  | maxX (xs : List X)
  | compK (lv : Bool) (x : X) (tg : Tg) (cond : List X) (elt : X) (own : List Nat)
  | dixL (x y : X) | mkE (cls : Str) (fns : List Str) (xs : List X) | attrE (x : X) (f : Str)
  | callK (f : Nat) (fz : Bool) (x : X) (kn : Str) (y : X)
  | dix (x y : X) | dget (x : X) (ys : List X) | dpop (x : X) (ys : List X) | remS (x : X) (ys : List X) | din (neg : Bool) (x y : X) | dnew (t : Bool) | dkeys (lv : Bool) (xs : List X) | dlen (xs : List X) | dsetd (x y z : X) | dvals (lv : Bool) (i kx : Nat) (own : List Nat)
  | attr (x : X) (f : Str) | callS (f dn : Nat) (xs : List X) | callM (m : Str) (alts : List (Str × Nat)) (dn : Nat) (x : X) (xs : List X) | make (cls : Str) (f dn : Nat) (xs : List X) | make0 (cls : Str) | makeK (cls : Str) (f : Nat) (kn : Str) (y : X) | disp (ks : List Str) (xs : List X) | dkeysT (lv : Bool) (xs : List X) | isC (ob : Ob) (x : X) (cls : Str)
  | sm0 (m : SMth) (x : X) | sm1 (lv : Bool) (m : SMth) (x y : X) | inS (neg : Bool) (x y : X) | orV (x : X) (s : Str)
inductive Src where
  | lst (x : X) | tup (x : X) | rng (xs : List X) | enum (x : X) | zip (x y : X) | zipL (x y : X) | enumT (x : X) | rng3 (xs : List X) | sgn (x : X)
end
/-- a test of a caught exception -/
inductive ET where
  | is1 (c : Str) | isT (cs : List Str) | var (i : Nat) | pred (f : Str) (cs : List Str) | andN (t : ET) (i : Nat)
/-- what an except suite does -/
inductive SE where
  | lst (i : Nat) (ts : List ET) | app (i : Nat) (t : ET) | set (i : Nat) (t : ET) | orr (i : Nat) (t : ET) | addL (i : Nat) (ts : List ET)
/-- what a clause's list tells: constants, the exception's fields, tests -/
inductive EX where
  | int (i : Int) | non | fld (f : Str) | tst (t : ET)
/-- what a try guards -/
inductive TB where
  | setL (i : Nat) (pre : List Int) (f dn : Nat) (fz : Bool) (xs : List X)
  | call (f dn : Nat) (xs : List X) | set (i f dn : Nat) (xs : List X) | ife (c : X) (a b : TB) | callS (f dn : Nat) (xs : List X) | callM (m : Str) (alts : List (Str × Nat)) (dn : Nat) (x : X) (xs : List X)
inductive S where
  | raise (cls : Str) | tryE (rs : List Str) (b : TB) (exc : Str) (j : Nat) (suite : List SE)
  | raiseF (cls : Str) (fns : List Str) (xs : List X) | tryM (rs : List Str) (b : TB) (hs : List (Str × Nat × Nat × List EX)) | forK (tg : Tg) (x : X) (body : List S)
  | ret (x : X) | retN | expr (x : X) | set (i : Nat) (x : X) | asg (is : List Nat) (x : X) | asgL (is : List Nat) (x : X) | par (i j : Nat) (x y : X)
  | dset (o i v : X) | setIx (o i v : X) | setAt (cls f : Str) (o v : X) | aug (a : Aop) (i : Nat) (x : X) | augIx (a : Aop) (o i x : X)
  | ife (c : X) (t e : List S) | for_ (tg : Tg) (src : Src) (body : List S) | forI (tg : Tg) (x : X) (body : List S) | wh (c : X) (body : List S)
  | pass | kill (is : List Nat) | never
def fnth (Γ : List (Nat × Fn)) (f dn : Nat) (fz : Bool) (ds : List D) (μ : Sto) : R D := match Γ.lookup f with
  | some F => dCall F dn fz ds μ
  | none => none
mutual
def X.ev (Γ : List (Nat × Fn)) : X → FE
  | .var i => fVar i
  | .int i => fC (.int i)
  | .bl b => fC (.bl b)
  | .non => fC .non
  | .str x => fC (.str x)
  | .cst _ d => fC d
  | .bin b lv x y => fBin (b.d lv) (x.ev Γ) (y.ev Γ)
  | .neg x => fun env μ => rb (x.ev Γ env μ) dNeg
  | .cmp k x y => fBin (dCmp k) (x.ev Γ) (y.ev Γ)
  | .chain k k' x y z => fChain k k' (x.ev Γ) (y.ev Γ) (z.ev Γ)
  | .isN x => fun env μ => rb (x.ev Γ env μ) dIsN
  | .notN x => fun env μ => rb (x.ev Γ env μ) dNotN
  | .and xs => X.evAnd Γ xs
  | .or xs => X.evOr Γ xs
  | .not x => fNot (x.ev Γ)
  | .lst lv xs => fun env μ => rb (X.evs Γ xs env μ) (dLst lv)
  | .tup xs => fun env μ => rb (X.evs Γ xs env μ) dTup
  | .ix x y => fBin dIx (x.ev Γ) (y.ev Γ)
  | .slice lv x lo hi => fSlice lv (x.ev Γ) (X.evo Γ lo) (X.evo Γ hi)
  | .call f dn fz xs => fun env μ => rb (X.evs Γ xs env μ) (fnth Γ f dn fz)
  | .bi b lv xs => fun env μ => rb (X.evs Γ xs env μ) (b.d lv)
  | .isi t x => fun env μ => rb (x.ev Γ env μ) (dIsi t)
  | .mth m x xs => match xs with
    | [] => fMth0 m (x.ev Γ)
    | xs => fMth m (x.ev Γ) (X.evs Γ xs)
  | .comp lv src tg cond elt own => fComp lv (src.ev Γ) tg (X.evo Γ cond) (elt.ev Γ) own
  | .frz x => fFrz (x.ev Γ)
  | .rev lv x => fun env μ => rb (x.ev Γ env μ) (dRev lv)
  | .isB neg x b => fBin (dIsB neg) (x.ev Γ) (fC (.bl b))
  | .lrg lv xs => fun env μ => rb (X.evs Γ xs env μ) (dLrg lv)
  | .lset x => fun env μ => rb (x.ev Γ env μ) dLSet
  | .srtP lv xs => fun env μ => rb (X.evs Γ xs env μ) (dSortP lv)
  | .lrg3 lv xs => fun env μ => rb (X.evs Γ xs env μ) (dLrg3 lv)
  | .maxX xs => fun env μ => rb (X.evs Γ xs env μ) dMaxX
  | .compK lv x tg cond elt own => fCompK lv (x.ev Γ) tg (X.evo Γ cond) (elt.ev Γ) own
  | .dixL x y => fBin dDixL (x.ev Γ) (y.ev Γ)
  | .mkE cls fns xs => fun env μ => rb (X.evs Γ xs env μ) (dMkE cls fns)
  | .attrE x f => fun env μ => rb (x.ev Γ env μ) (dAttrE f)
  | .dix x y => fBin dDix (x.ev Γ) (y.ev Γ)
  | .dget x ys => fGet (x.ev Γ) (X.evs Γ ys)
  | .dpop x ys => fPop (x.ev Γ) (X.evs Γ ys)
  | .remS x ys => fRemS (x.ev Γ) (X.evs Γ ys)
  | .din neg x y => fBin (dDin neg) (x.ev Γ) (y.ev Γ)
  | .dsetd x y z => fSetd (x.ev Γ) (y.ev Γ) (z.ev Γ)
  | .dvals lv i kx _ => fVals lv i kx
  | .dnew t => dNew t
  | .dkeys lv xs => fun env μ => rb (X.evs Γ xs env μ) (dKeys lv)
  | .dlen xs => fun env μ => rb (X.evs Γ xs env μ) dDlen
  | .callK f fz x _ y => fun env μ => rb (fCons (x.ev Γ) (fCons (y.ev Γ) fNil) env μ) (fnth Γ f 0 fz)
  | .attr x f => fun env μ => rb (x.ev Γ env μ) (dAttr f)
  | .callS f dn xs => fun env μ => rb (X.evs Γ xs env μ) (fnthS Γ f dn)
  | .callM _ alts dn x xs => fCallM Γ alts dn (x.ev Γ) (X.evs Γ xs)
  | .make cls f dn xs => fMake Γ cls f dn (X.evs Γ xs)
  | .make0 cls => fMake0 cls
  | .disp ks xs => fDisp ks (X.evs Γ xs)
  | .dkeysT lv xs => fun env μ => rb (X.evs Γ xs env μ) (dKeysT lv)
  | .makeK cls f _ y => fMake Γ cls f 0 (fCons (y.ev Γ) fNil)
  | .isC ob x cls => fun env μ => rb (x.ev Γ env μ) (dIsC ob cls)
  | .sm0 m x => fSm0 m (x.ev Γ)
  | .sm1 lv m x y => fSm1 lv m (x.ev Γ) (y.ev Γ)
  | .inS neg x y => fBin (dInT neg) (x.ev Γ) (y.ev Γ)
  | .orV x s => fOrV s (x.ev Γ)
def X.evs (Γ : List (Nat × Fn)) : List X → FEs
  | [] => fNil
  | x :: r => fCons (x.ev Γ) (X.evs Γ r)
def X.evo (Γ : List (Nat × Fn)) : List X → Option FE
  | [] => none
  | x :: _ => some (x.ev Γ)
def X.evAnd (Γ : List (Nat × Fn)) : List X → FE
  | [] => fun _ _ => none
  | [x] => x.ev Γ
  | x :: y :: r => fAnd (x.ev Γ) (X.evAnd Γ (y :: r))
def X.evOr (Γ : List (Nat × Fn)) : List X → FE
  | [] => fun _ _ => none
  | [x] => x.ev Γ
  | x :: y :: r => fOr (x.ev Γ) (X.evOr Γ (y :: r))
def Src.ev (Γ : List (Nat × Fn)) : Src → FSrc
  | .lst x => fun env μ => rb (x.ev Γ env μ) dSrc
  | .tup x => fun env μ => rb (x.ev Γ env μ) dSrcT
  | .rng xs => fun env μ => rb (X.evs Γ xs env μ) dRng
  | .enum x => fun env μ => rb (fCons (x.ev Γ) fNil env μ) dEnum
  | .zipL x y => fun env μ => rb (fCons (x.ev Γ) (fCons (y.ev Γ) fNil) env μ) dZipL
  | .zip x y => fun env μ => rb (fCons (x.ev Γ) (fCons (y.ev Γ) fNil) env μ) dZip
  | .enumT x => fun env μ => rb (fCons (x.ev Γ) fNil env μ) dEnumT
  | .rng3 xs => fun env μ => rb (X.evs Γ xs env μ) dRng3
  | .sgn x => fun env μ => rb (x.ev Γ env μ) dSrcS
end
/-- the classes of the text: each under EnvyError, that under ValueError -/
def subE (cls c : Str) : Bool := cls == c || c == ("EnvyError" : Str) || c == ("ValueError" : Str)
def ET.b (cls : Str) (env : Env) : ET → Option Bool
  | .is1 c => some (subE cls c)
  | .isT cs => some (cs.any (subE cls))
  | .var i => match env[i]? with
    | some (some (.bl b)) => some b
    | _ => none
  | .pred _ cs => some (cs.any (subE cls))
  | .andN t i => match t.b cls env, env[i]? with
    | some a, some (some (.bl b)) => some (a && !b)
    | _, _ => none
def ET.ev (cls : Str) (t : ET) : FE := fun env μ => match t.b cls env with
  | some b => ok (.bl b) μ
  | none => none
def ET.evs (cls : Str) : List ET → FEs
  | [] => fNil
  | t :: r => fCons (t.ev cls) (ET.evs cls r)
def SE.ev (cls : Str) (j : Nat) (env : Env) (μ : Sto) : SE → Option (Env × Sto)
  | .lst i ts => if i = j then none else match (rb (ET.evs cls ts env μ) (dLst true) : R D) with
    | some (.ok (d, μ1)) => some (env.set i (some d), μ1)
    | _ => none
  | .app i t => if i = j then none else match fMth .append (fVar i) (ET.evs cls [t]) env μ with
    | some (.ok (_, μ1)) => some (env, μ1)
    | _ => none
  | .set i t => if i = j then none else match t.b cls env with
    | some b => some (env.set i (some (.bl b)), μ)
    | none => none
  | .orr i t => if i = j then none else match env[i]?, t.b cls env with
    | some (some (.bl a)), some b => some (env.set i (some (.bl (a || b))), μ)
    | _, _ => none
  | .addL i ts => if i = j then none else match fBin (dAdd true) (fVar i) (fun env μ => rb (ET.evs cls ts env μ) (dLst false)) env μ with
    | some (.ok (d, μ1)) => some (env.set i (some d), μ1)
    | _ => none
def SE.evs (cls : Str) (j : Nat) : List SE → Env → Sto → Option (Env × Sto)
  | [], env, μ => some (env, μ)
  | s :: r, env, μ => match s.ev cls j env μ with
    | some (e, m) => SE.evs cls j r e m
    | none => none
def TB.ev (Γ : List (Nat × Fn)) : TB → Env → Sto → R Env
  | .setL i pre f dn fz xs, env, μ => rb (noErr (X.evs Γ xs env μ)) fun ds μ1 => rb (fnth Γ f dn fz ds μ1) fun d μ2 => rb (noErr (dLst true (pre.map D.int ++ [d]) μ2)) fun l μ3 => ok (env.set i (some l)) μ3
  | .call f dn xs, env, μ => rb (noErr (X.evs Γ xs env μ)) fun ds μ1 => rb (fnth Γ f dn true ds μ1) fun _ μ2 => ok env μ2
  | .set i f dn xs, env, μ => rb (noErr (X.evs Γ xs env μ)) fun ds μ1 => rb (fnth Γ f dn true ds μ1) fun d μ2 => ok (env.set i (some d)) μ2
  | .ife c a b, env, μ => rb (noErr (c.ev Γ env μ)) fun d μ1 => match d with
    | .bl true => a.ev Γ env μ1
    | .bl false => b.ev Γ env μ1
    | _ => none
  | .callS f dn xs, env, μ => rb (noErr (X.evs Γ xs env μ)) fun ds μ1 => rb (fnthS Γ f dn ds μ1) fun _ μ2 => ok env μ2
  | .callM _ alts dn x xs, env, μ => rb (noErr (x.ev Γ env μ)) fun d μ1 => match d with
    | .ref n => match μ1[n]? with
      | some (.ins cls _) => match alts.lookup cls with
        | some i => rb (noErr (X.evs Γ xs env μ1)) fun ds μ2 => rb (fnthS Γ i dn (.ref n :: ds) μ2) fun _ μ3 => ok env μ3
        | none => none
      | _ => none
    | _ => none
def sTry (Γ : List (Nat × Fn)) (rs : List Str) (b : TB) (exc : Str) (j : Nat) (suite : List SE) : FS := fun env μ => match b.ev Γ env μ with
  | none => none
  | some (.ok (e, m)) => ok (.nx e) m
  | some (.error (x, m)) => if (decide (x.cls ∈ rs) && subE x.cls exc && x.fs.isEmpty && decide (j < env.length)) = true then match SE.evs x.cls j suite (env.set j none) m with
      | some (e, m1) => ok (.nx (e.set j none)) m1
      | none => none
    else none
def EX.ev (exc : Str) (x : Exn) : EX → FE
  | .int i => fC (.int i)
  | .non => fC .non
  | .fld f => fun _ μ => if x.cls = exc then (match x.fs.lookup f with
    | some d => if scalD d = true then ok d μ else none
    | none => none) else none
  | .tst t => t.ev x.cls
def EX.evs (exc : Str) (x : Exn) : List EX → FEs
  | [] => fNil
  | t :: r => fCons (t.ev exc x) (EX.evs exc x r)
def hndM (x : Exn) (env : Env) (m : Sto) : List (Str × Nat × Nat × List EX) → R Fl
  | [] => none
  | (exc, j, i, xs) :: r => if subE x.cls exc = true then (if j < env.length ∧ i ≠ j then (match (rb (EX.evs exc x xs (env.set j none) m) (dLst true) : R D) with
    | some (.ok (d, m1)) => ok (.nx (((env.set j none).set i (some d)).set j none)) m1
    | _ => none) else none) else hndM x env m r
def sTryM (Γ : List (Nat × Fn)) (rs : List Str) (b : TB) (hs : List (Str × Nat × Nat × List EX)) : FS := fun env μ => match b.ev Γ env μ with
  | none => none
  | some (.ok (e, m)) => ok (.nx e) m
  | some (.error (x, m)) => if decide (x.cls ∈ rs) = true then hndM x env m hs else none
mutual
def S.ev (Γ : List (Nat × Fn)) : S → FS
  | .raise cls => fun _ μ => some (.error (⟨cls, []⟩, μ))
  | .tryE rs b exc j suite => sTry Γ rs b exc j suite
  | .raiseF cls fns xs => fun env μ => rb (X.evs Γ xs env μ) (dRaise cls fns)
  | .tryM rs b hs => sTryM Γ rs b hs
  | .forK tg x body => sForK tg (x.ev Γ) (S.evs Γ body)
  | .ret x => sRet (x.ev Γ)
  | .retN => sRetN
  | .expr x => sDrop (x.ev Γ)
  | .set i x => sAsg (.nm i) (x.ev Γ)
  | .asg is x => sAsg (.tup is) (x.ev Γ)
  | .asgL is x => sAsgL is (x.ev Γ)
  | .par i j x y => sPar i j (x.ev Γ) (y.ev Γ)
  | .dset o i v => sDset (o.ev Γ) (i.ev Γ) (v.ev Γ)
  | .setIx o i v => sSetIx (o.ev Γ) (i.ev Γ) (v.ev Γ)
  | .setAt cls f o v => sSetAt cls f (o.ev Γ) (v.ev Γ)
  | .aug a i x => sAug a i (x.ev Γ)
  | .augIx a o i x => sAugIx a (o.ev Γ) (i.ev Γ) (x.ev Γ)
  | .ife c t e => sIf (c.ev Γ) (S.evs Γ t) (S.evs Γ e)
  | .for_ tg src body => sFor tg (src.ev Γ) (S.evs Γ body)
  | .forI tg x body => sForI tg (x.ev Γ) (S.evs Γ body)
  | .wh c body => sWhile (c.ev Γ) (S.evs Γ body)
  | .pass => sNext
  | .kill is => sKill is
  | .never => fun _ _ => none
def S.evs (Γ : List (Nat × Fn)) : List S → FS
  | [] => sNext
  | s :: r => sSeq (s.ev Γ) (S.evs Γ r)
end
/-- a def: its body run on the arguments -/
def runDef (Γ : List (Nat × Fn)) (N : List Str) (body : List S) (ds : List D) : Option (Except Exn (D × Sto)) :=
  match S.evs Γ body (ds.map some ++ List.replicate (N.length - ds.length) none) [] with
  | none => none
  | some (.error (x, _)) => some (.error x)
  | some (.ok (.nx _, _)) => some (.ok (.non, []))
  | some (.ok (.rt d, μ)) => some (.ok (d, if d.clean = true then [] else μ))
/-- .. in the caller's own store -/
def runDefS (Γ : List (Nat × Fn)) (N : List Str) (body : List S) (ds : List D) (μ : Sto) : R D :=
  match S.evs Γ body (ds.map some ++ List.replicate (N.length - ds.length) none) μ with
  | none => none
  | some (.error e) => some (.error e)
  | some (.ok (.nx _, μ1)) => ok .non μ1
  | some (.ok (.rt d, μ1)) => ok d μ1
/-! ### the check -/
structure Ck where
  N : List Str
  Γ : List (Nat × Fn)
  bs : List Str
  cs : List (Str × D)
  rs : List Str
  ts : List Str
  ob : Ob
def vis (sc : Scope) (x : Str) : Bool := match sc.names.lookup x with
  | some .local => true
  | some .cell => true
  | some .free => true
  | _ => false
def locb (sc : Scope) (fn : Str → Bool) (x : Str) : Bool := match sc.names.lookup x with
  | some .local => true
  | some .cell => fn x
  | _ => false
def glb (sc : Scope) (x : Str) : Bool := match sc.names.lookup x with
  | some .globalImplicit => true
  | _ => false
def nm (x : Str) : Bool := !(x == ("__debug__" : Str)) && !(x == ("__classdict__" : Str)) && !(x == ("__name__" : Str))
def notStar : Expr → Bool
  | .Starred _ _ => false
  | _ => true
def notSlice : Expr → Bool
  | .Slice _ _ _ _ => false
  | _ => true
def notSet : Expr → Bool
  | .Set _ _ _ => false
  | _ => true
def notComp : Expr → Bool
  | .ListComp _ _ _ _ => false
  | .SetComp _ _ _ _ => false
  | .DictComp _ _ _ _ _ => false
  | _ => true
def notTup : Expr → Bool
  | .Tuple _ _ _ => false
  | _ => true
def notCall : Expr → Bool
  | .Call (.Name _ _) [] [] _ => false
  | _ => true
/-- a test by its value -/
def plainT : Expr → Bool
  | .UnaryOp _ _ _ => false
  | .BoolOp _ _ _ => false
  | .IfExp _ _ _ _ => false
  | .Compare _ _ _ _ => false
  | _ => true
def opEq : Operator → Operator → Bool
  | .Add, .Add => true | .Sub, .Sub => true | .Mult, .Mult => true | .FloorDiv, .FloorDiv => true | .Mod, .Mod => true | .Pow, .Pow => true
  | _, _ => false
def cmEq : CmpOp → CmpOp → Bool
  | .Eq, .Eq => true | .NotEq, .NotEq => true | .Lt, .Lt => true | .LtE, .LtE => true | .Gt, .Gt => true | .GtE, .GtE => true | .In, .In => true | .NotIn, .NotIn => true
  | _, _ => false
/-- a built-in's name -/
def bi (k : Ck) (sc : Scope) (b x : Str) : Bool := decide (x = b) && glb sc x && decide (x ∈ k.bs)
def tgNames (k : Ck) (sc : Scope) (fn : Str → Bool) : List Nat → List Expr → Bool
  | [], [] => true
  | i :: is, .Name x _ :: es => decide (k.N[i]? = some x) && locb sc fn x && tgNames k sc fn is es
  | _, _ => false
def Tg.ok (k : Ck) (sc : Scope) (fn : Str → Bool) : Tg → Expr → Bool
  | .nm i, .Name x _ => decide (k.N[i]? = some x) && locb sc fn x
  | .tup is, .Tuple es _ _ => tgNames k sc fn is es
  | _, _ => false
def optB {α : Type} (o : Option α) (f : α → Bool) : Bool := match o with
  | some a => f a
  | none => false
theorem optB_ok {α : Type} {o : Option α} {f : α → Bool} (h : optB o f = true) : ∃ a, o = some a ∧ f a = true := by
  cases o with
  | none => cases h
  | some a => exact ⟨a, rfl, h⟩
def asName : Expr → Option Str
  | .Name x _ => some x
  | _ => none
def asConst : Expr → Option Const
  | .Constant c _ _ => some c
  | _ => none
def asBin : Expr → Option (Expr × Operator × Expr)
  | .BinOp e op f _ => some (e, op, f)
  | _ => none
def asNeg : Expr → Option Expr
  | .UnaryOp .USub e _ => some e
  | _ => none
def asNot : Expr → Option Expr
  | .UnaryOp .Not e _ => some e
  | _ => none
def asCmp : Expr → Option (Expr × CmpOp × Expr)
  | .Compare e [op] [f] _ => some (e, op, f)
  | _ => none
def asChain : Expr → Option (Expr × CmpOp × Expr × CmpOp × Expr)
  | .Compare e [op, op'] [f, g] _ => some (e, op, f, op', g)
  | _ => none
def asIsN : Expr → Option Expr
  | .Compare e [.Is] [.Constant .none _ _] _ => some e
  | _ => none
def asNotN : Expr → Option Expr
  | .Compare e [.IsNot] [.Constant .none _ _] _ => some e
  | _ => none
def asAnd : Expr → Option (List Expr)
  | .BoolOp .And es _ => some es
  | _ => none
def asOr : Expr → Option (List Expr)
  | .BoolOp .Or es _ => some es
  | _ => none
def asList : Expr → Option (List Expr)
  | .List es _ => some es
  | _ => none
def asTup : Expr → Option (List Expr)
  | .Tuple es _ _ => some es
  | _ => none
def asSub : Expr → Option (Expr × Expr)
  | .Subscript e f _ => some (e, f)
  | _ => none
def asSlice : Expr → Option (Expr × Option Expr × Option Expr)
  | .Subscript e (.Slice l u none _) _ => some (e, l, u)
  | _ => none
def asRev : Expr → Option Expr
  | .Subscript e (.Slice none none (some (.UnaryOp .USub (.Constant (.int i) _ _) _)) _) _ => if i = 1 then some e else none
  | _ => none
def asIsB : Expr → Option (Expr × Bool × Bool)
  | .Compare e [.Is] [.Constant (.bool b) _ _] _ => some (e, false, b)
  | .Compare e [.IsNot] [.Constant (.bool b) _ _] _ => some (e, true, b)
  | _ => none
def asLrg : Expr → Option (Str × Str × Expr × List Expr)
  | .Call (.Name x _) [.Call (.Name y _) (a :: as) [] _] [] _ => some (x, y, a, as)
  | _ => none
def asLSet : Expr → Option (Str × Str × Expr)
  | .Call (.Name x _) [.Call (.Name y _) [a] [] _] [] _ => some (x, y, a)
  | _ => none
def asCall : Expr → Option (Str × Expr × List Expr)
  | .Call (.Name x _) (e :: es) [] _ => some (x, e, es)
  | _ => none
def asCall0 : Expr → Option Str
  | .Call (.Name x _) [] [] _ => some x
  | _ => none
def asAttr : Expr → Option (Expr × Str)
  | .Attribute e f _ => some (e, f)
  | _ => none
/-- a call by name, of any number of arguments -/
def asCallA : Expr → Option (Str × List Expr)
  | .Call (.Name x _) es [] _ => some (x, es)
  | _ => none
def asCallK : Expr → Option (Str × Expr × Str × Expr)
  | .Call (.Name x _) [e] [⟨some kn, e2, _⟩] _ => some (x, e, kn, e2)
  | _ => none
def asDict : Expr → Option (List (Option Expr) × List Expr)
  | .Dict ks vs _ => some (ks, vs)
  | _ => none
def asMakeK : Expr → Option (Str × Str × Expr)
  | .Call (.Name x _) [] [⟨some kn, e2, _⟩] _ => some (x, kn, e2)
  | _ => none
def asRg3 : Expr → Option (Str × Str × Expr × Expr × Expr)
  | .Call (.Name x _) [.Call (.Name y _) [a, b, c] [] _] [] _ => some (x, y, a, b, c)
  | _ => none
def asCall3 : Expr → Option (Str × Expr × Expr × Expr)
  | .Call (.Name x _) [a, b, c] [] _ => some (x, a, b, c)
  | _ => none
def asCall2 : Expr → Option (Str × Expr × Expr)
  | .Call (.Name n _) [e, f] [] _ => some (n, e, f)
  | _ => none
def asIsi : Expr → Option (Str × Expr × Str)
  | .Call (.Name n _) [e, .Name y _] [] _ => some (n, e, y)
  | _ => none
def asMth : Expr → Option (Expr × Str × Pos × List Expr × Pos)
  | .Call (.Attribute o a ap) es [] p => some (o, a, ap, es, p)
  | _ => none
def asComp : Expr → Option (Expr × Expr × Expr × List Expr × Scope)
  | .ListComp e [⟨t, it, ifs, 0⟩] scope _ => some (e, t, it, ifs, scope)
  | _ => none
def isDict0 : Expr → Bool
  | .Dict [] [] _ => true
  | _ => false
def asGet : Expr → Option (Expr × Str × Pos × Expr × List Expr × Pos)
  | .Call (.Attribute o a ap) (e :: es) [] p => some (o, a, ap, e, es, p)
  | _ => none
def asSetd : Expr → Option (Expr × Str × Pos × Expr × Expr × Pos)
  | .Call (.Attribute o a ap) [e, f] [] p => some (o, a, ap, e, f, p)
  | _ => none
def noIf : List Expr → Bool
  | [] => true
  | _ => false
def varC (k : Ck) (sc : Scope) (i : Nat) (e : Expr) : Bool := optB (asName e) fun x => decide (k.N[i]? = some x) && vis sc x && nm x
def isTupE : Expr → Bool
  | .Tuple _ _ _ => true
  | _ => false
def isIntC (i : Int) : Const → Bool
  | .int j => decide (i = j)
  | _ => false
def isBlC (b : Bool) : Const → Bool
  | .bool c => b == c
  | _ => false
def isStrC (x : Str) : Const → Bool
  | .str y => decide (x = y)
  | _ => false
def isNonC : Const → Bool
  | .none => true
  | _ => false
def sameC : D → D → Bool
  | .int i, .int j => decide (i = j)
  | .str i, .str j => decide (i = j)
  | _, _ => false
def oneE : List Expr → Option Expr
  | [a] => some a
  | _ => none
def twoE : List Expr → Option (Expr × Expr)
  | [a, b] => some (a, b)
  | _ => none
theorem oneE_eq {es : List Expr} {a : Expr} (h : oneE es = some a) : es = [a] := by
  unfold oneE at h
  split at h
  · cases h
    rfl
  · cases h
theorem twoE_eq {es : List Expr} {p : Expr × Expr} (h : twoE es = some p) : es = [p.1, p.2] := by
  unfold twoE at h
  split at h
  · cases h
    rfl
  · cases h
/-- no call of a name without arguments -/
def notCallA : Expr → Bool
  | .Call (.Name _ _) [] [] _ => false
  | _ => true
/-- the methods of a name -/
def altsOk (k : Ck) (m : Str) (dn : Nat) (alts : List (Str × Nat)) : Bool := !(m == ("__init__" : Str)) && alts.all fun p => optB (k.Γ.lookup p.2) fun F => decide (F.name = m) && decide (dn ≤ F.dn) && decide (p.1 ∈ F.cs)
mutual
def X.ok (k : Ck) (sc : Scope) (fn : Str → Bool) : X → Expr → Bool
  | .var i, e => optB (asName e) fun x => decide (k.N[i]? = some x) && vis sc x && nm x
  | .int i, e => optB (asConst e) (isIntC i)
  | .bl b, e => optB (asConst e) (isBlC b)
  | .non, e => optB (asConst e) isNonC
  | .str x, e => optB (asConst e) (isStrC x)
  | .cst x d, e => optB (asName e) fun y => decide (x = y) && glb sc y && nm y && optB (k.cs.lookup y) fun d' => sameC d' d
  | .bin b _ x y, e => optB (asBin e) fun t => opEq b.op t.2.1 && x.ok k sc fn t.1 && y.ok k sc fn t.2.2
  | .neg x, e => optB (asNeg e) fun t => x.ok k sc fn t
  | .cmp c x y, e => optB (asCmp e) fun t => cmEq c.op t.2.1 && notSet t.2.2 && x.ok k sc fn t.1 && y.ok k sc fn t.2.2
  | .chain c c' x y z, e => optB (asChain e) fun t => cmEq c.op t.2.1 && cmEq c'.op t.2.2.2.1 && notSet t.2.2.2.2 && x.ok k sc fn t.1 && y.ok k sc fn t.2.2.1 && z.ok k sc fn t.2.2.2.2
  | .isN x, e => optB (asIsN e) fun t => x.ok k sc fn t
  | .notN x, e => optB (asNotN e) fun t => x.ok k sc fn t
  | .and xs, e => optB (asAnd e) fun es => X.oks k sc fn xs es
  | .or xs, e => optB (asOr e) fun es => X.oks k sc fn xs es
  | .not x, e => optB (asNot e) fun t => x.ok k sc fn t
  | .lst _ xs, e => optB (asList e) fun es => X.oks k sc fn xs es
  | .tup xs, e => optB (asTup e) fun es => X.oks k sc fn xs es
  | .ix x y, e => optB (asSub e) fun t => notSlice t.2 && x.ok k sc fn t.1 && y.ok k sc fn t.2
  | .slice _ x lo hi, e => optB (asSlice e) fun t => x.ok k sc fn t.1 && X.oko k sc fn lo t.2.1 && X.oko k sc fn hi t.2.2
  | .call f dn _ xs, e => optB (asCall e) fun t => optB (k.Γ.lookup f) (fun F => decide (F.name = t.1) && decide (dn ≤ F.dn) && F.cs.isEmpty) && glb sc t.1 && nm t.1 && X.oks k sc fn xs (t.2.1 :: t.2.2)
  | .bi b _ xs, e => optB (asCall e) fun t => bi k sc b.nm t.1 && X.oks k sc fn xs (t.2.1 :: t.2.2)
  | .isi t x, e => optB (asIsi e) fun u => bi k sc "isinstance" u.1 && bi k sc (Str.ofString t.nm) u.2.2 && notStar u.2.1 && x.ok k sc fn u.2.1
  | .mth m x xs, e => optB (asMth e) fun t => decide (m.nm = t.2.1) && notCall t.1 && (t.2.2.1.endLine == t.2.2.2.2.line) && decide (t.2.2.2.1.length < 30) && x.ok k sc fn t.1 && X.oks k sc fn xs t.2.2.2.1
  | .comp _ src tg cond elt own, e => optB (asComp e) fun t =>
      blkC k.N sc t.2.2.2.2 (own.map fun i => (k.N.getD i "", i)) && (tg.slots.all fun i => own.contains i) && notSet t.2.2.1 && src.ok k sc fn t.2.2.1 t.2.1 &&
        tg.ok k (relS t.2.2.2.2 sc) (fun x => t.2.2.2.2.names.lookup x == some .cell) t.2.1 && X.okc k (relS t.2.2.2.2 sc) (fun x => t.2.2.2.2.names.lookup x == some .cell) cond t.2.2.2.1 && elt.ok k (relS t.2.2.2.2 sc) (fun x => t.2.2.2.2.names.lookup x == some .cell) t.1
  | .compK _ x tg cond elt own, e => optB (asComp e) fun t =>
      blkC k.N sc t.2.2.2.2 (own.map fun i => (k.N.getD i "", i)) && (tg.slots.all fun i => own.contains i) && notSet t.2.2.1 && x.ok k sc fn t.2.2.1 &&
        tg.ok k (relS t.2.2.2.2 sc) (fun x => t.2.2.2.2.names.lookup x == some .cell) t.2.1 && X.okc k (relS t.2.2.2.2 sc) (fun x => t.2.2.2.2.names.lookup x == some .cell) cond t.2.2.2.1 && elt.ok k (relS t.2.2.2.2 sc) (fun x => t.2.2.2.2.names.lookup x == some .cell) t.1
  | .dixL x y, e => optB (asSub e) fun t => notSlice t.2 && x.ok k sc fn t.1 && y.ok k sc fn t.2
  | .mkE cls fns xs, e => optB (asCall e) fun t => decide (t.1 = cls) && glb sc t.1 && nm t.1 && decide ((cls, fns) ∈ k.ob.xc) && X.oks k sc fn xs (t.2.1 :: t.2.2)
  | .attrE x f, e => optB (asAttr e) fun t => decide (t.2 = f) && notCallA t.1 && x.ok k sc fn t.1
  | .frz x, e => plainT e && x.ok k sc fn e
  | .rev _ x, e => optB (asRev e) fun t => x.ok k sc fn t
  | .isB neg x b, e => optB (asIsB e) fun t => (neg == t.2.1) && (b == t.2.2) && x.ok k sc fn t.1
  | .lrg _ xs, e => optB (asLrg e) fun t => bi k sc "list" t.1 && bi k sc "range" t.2.1 && decide (t.2.2.2.length ≤ 1) && X.oks k sc fn xs (t.2.2.1 :: t.2.2.2)
  | .lset x, e => optB (asLSet e) fun t => bi k sc "len" t.1 && bi k sc "set" t.2.1 && notStar t.2.2 && x.ok k sc fn t.2.2
  | .srtP _ xs, e => optB (asCall e) fun t => bi k sc "sorted" t.1 && X.oks k sc fn xs (t.2.1 :: t.2.2)
  | .lrg3 _ xs, e => optB (asRg3 e) fun t => bi k sc "list" t.1 && bi k sc "range" t.2.1 && X.oks k sc fn xs [t.2.2.1, t.2.2.2.1, t.2.2.2.2]
  | .maxX xs, e => optB (asCall e) fun t => bi k sc "max" t.1 && X.oks k sc fn xs (t.2.1 :: t.2.2)
  | .dix x y, e => optB (asSub e) fun t => notSlice t.2 && x.ok k sc fn t.1 && y.ok k sc fn t.2
  | .dget x ys, e => optB (asGet e) fun t => decide (t.2.1 = ("get" : Str)) && notCall t.1 && (t.2.2.1.endLine == t.2.2.2.2.2.line) && decide (t.2.2.2.2.1.length < 20) && x.ok k sc fn t.1 && X.oks k sc fn ys (t.2.2.2.1 :: t.2.2.2.2.1)
  | .dpop x ys, e => optB (asGet e) fun t => decide (t.2.1 = ("pop" : Str)) && notCall t.1 && (t.2.2.1.endLine == t.2.2.2.2.2.line) && decide (t.2.2.2.2.1.length < 20) && x.ok k sc fn t.1 && X.oks k sc fn ys (t.2.2.2.1 :: t.2.2.2.2.1)
  | .remS x ys, e => optB (asGet e) fun t => decide (t.2.1 = ("remove" : Str)) && notCall t.1 && (t.2.2.1.endLine == t.2.2.2.2.2.line) && decide (t.2.2.2.2.1.length < 20) && x.ok k sc fn t.1 && X.oks k sc fn ys (t.2.2.2.1 :: t.2.2.2.2.1)
  | .dsetd x y z, e => optB (asSetd e) fun t => decide (t.2.1 = ("setdefault" : Str)) && notCall t.1 && (t.2.2.1.endLine == t.2.2.2.2.2.line) && x.ok k sc fn t.1 && y.ok k sc fn t.2.2.2.1 && z.ok k sc fn t.2.2.2.2.1 && notStar t.2.2.2.1 && notStar t.2.2.2.2.1
  | .dvals _ i kx own, e => optB (asComp e) fun t =>
      blkC k.N sc t.2.2.2.2 (own.map fun i => (k.N.getD i "", i)) && own.contains kx && !own.contains i && noIf t.2.2.2.1 && notSet t.2.2.1 && varC k sc i t.2.2.1 &&
        (Tg.nm kx).ok k (relS t.2.2.2.2 sc) (fun x => t.2.2.2.2.names.lookup x == some .cell) t.2.1 && optB (asSub t.1) fun u => notSlice u.2 && varC k (relS t.2.2.2.2 sc) i u.1 && varC k (relS t.2.2.2.2 sc) kx u.2
  | .din neg x y, e => optB (asCmp e) fun t => cmEq (if neg = true then .NotIn else .In) t.2.1 && notSet t.2.2 && x.ok k sc fn t.1 && y.ok k sc fn t.2.2
  | .dnew _, e => isDict0 e
  | .dkeys _ xs, e => optB (asCall e) fun t => bi k sc "list" t.1 && X.oks k sc fn xs (t.2.1 :: t.2.2)
  | .dlen xs, e => optB (asCall e) fun t => bi k sc "len" t.1 && X.oks k sc fn xs (t.2.1 :: t.2.2)
  | .callK f _ x kn y, e => optB (asCallK e) fun t => optB (k.Γ.lookup f) (fun F => decide (F.name = t.1) && decide (F.dn = 1) && decide (F.ps.length = 2) && decide (F.ps.drop 1 = [kn]) && F.cs.isEmpty) && decide (t.2.2.1 = kn) && glb sc t.1 && nm t.1 && notStar t.2.1 && x.ok k sc fn t.2.1 && y.ok k sc fn t.2.2.2
  | .attr x f, e => optB (asAttr e) fun t => decide (t.2 = f) && notCall t.1 && x.ok k sc fn t.1
  | .callS f dn xs, e => optB (asCallA e) fun t => optB (k.Γ.lookup f) (fun F => decide (F.name = t.1) && decide (dn ≤ F.dn) && F.cs.isEmpty) && glb sc t.1 && nm t.1 && X.oks k sc fn xs t.2
  | .callM m alts dn x xs, e => optB (asMth e) fun t => decide (m = t.2.1) && notCall t.1 && (t.2.2.1.endLine == t.2.2.2.2.line) && decide (t.2.2.2.1.length < 30) && x.ok k sc fn t.1 && X.oks k sc fn xs t.2.2.2.1 && altsOk k m dn alts
  | .make cls f dn xs, e => optB (asCallA e) fun t => decide (t.1 = cls) && optB (k.Γ.lookup f) (fun F => decide (F.name = ("__init__" : Str)) && decide (dn ≤ F.dn) && decide (cls ∈ F.cs)) && glb sc t.1 && nm t.1 && X.oks k sc fn xs t.2
  | .disp ks xs, e => optB (asDict e) fun t => !t.1.isEmpty && decide (t.1.length ≤ 15) && X.okd k sc fn ks xs t.1 t.2
  | .dkeysT _ xs, e => optB (asCall e) fun t => bi k sc "list" t.1 && X.oks k sc fn xs (t.2.1 :: t.2.2)
  | .makeK cls f kn y, e => optB (asMakeK e) fun t => decide (t.1 = cls) && optB (k.Γ.lookup f) (fun F => decide (F.name = ("__init__" : Str)) && decide (F.dn = 1) && decide (F.ps.length = 2) && decide (F.ps.drop 1 = [kn]) && decide (cls ∈ F.cs)) && decide (t.2.1 = kn) && glb sc t.1 && nm t.1 && y.ok k sc fn t.2.2
  | .make0 cls, e => optB (asCall0 e) fun x => decide (x = cls) && glb sc x && nm x && decide (x ∈ k.ob.c0)
  | .isC ob x cls, e => optB (asIsi e) fun u => bi k sc "isinstance" u.1 && decide (u.2.2 = cls) && glb sc u.2.2 && nm u.2.2 && decide (cls ∈ k.ob.ic) && decide (ob.ic = k.ob.ic) && decide (ob.sub = k.ob.sub) && notStar u.2.1 && x.ok k sc fn u.2.1
  | .sm0 m x, e => optB (asMth e) fun t => decide (m.nm = t.2.1) && notCall t.1 && (t.2.2.1.endLine == t.2.2.2.2.line) && x.ok k sc fn t.1 && t.2.2.2.1.isEmpty
  | .sm1 _ m x y, e => optB (asMth e) fun t => decide (m.nm = t.2.1) && notCall t.1 && (t.2.2.1.endLine == t.2.2.2.2.line) && x.ok k sc fn t.1 && optB (oneE t.2.2.2.1) fun a => notStar a && y.ok k sc fn a
  | .inS neg x y, e => optB (asCmp e) fun t => cmEq (if neg = true then .NotIn else .In) t.2.1 && notSet t.2.2 && x.ok k sc fn t.1 && y.ok k sc fn t.2.2
  | .orV x s, e => optB (asOr e) fun es => optB (twoE es) fun p => optB (asConst p.2) (isStrC s) && x.ok k sc fn p.1
def X.oks (k : Ck) (sc : Scope) (fn : Str → Bool) : List X → List Expr → Bool
  | [], [] => true
  | x :: r, e :: s => notStar e && x.ok k sc fn e && X.oks k sc fn r s
  | _, _ => false
def X.okd (k : Ck) (sc : Scope) (fn : Str → Bool) : List Str → List X → List (Option Expr) → List Expr → Bool
  | [], [], [], [] => true
  | s :: ks, x :: xs, some a :: keys, v :: values => optB (asConst a) (isStrC s) && x.ok k sc fn v && X.okd k sc fn ks xs keys values
  | _, _, _, _ => false
def X.oko (k : Ck) (sc : Scope) (fn : Str → Bool) : List X → Option Expr → Bool
  | [], none => true
  | [x], some e => x.ok k sc fn e
  | _, _ => false
def X.okc (k : Ck) (sc : Scope) (fn : Str → Bool) : List X → List Expr → Bool
  | [], [] => true
  | [x], [e] => x.ok k sc fn e
  | _, _ => false
def Src.ok (k : Ck) (sc : Scope) (fn : Str → Bool) : Src → Expr → Expr → Bool
  | .lst x, e, _ => x.ok k sc fn e
  | .tup x, e, _ => x.ok k sc fn e
  | .rng xs, e, _ => optB (asCall e) fun t => bi k sc "range" t.1 && decide (t.2.2.length ≤ 1) && X.oks k sc fn xs (t.2.1 :: t.2.2)
  | .enum x, e, g => isTupE g && optB (asCall e) fun t => bi k sc "enumerate" t.1 && t.2.2.isEmpty && notStar t.2.1 && x.ok k sc fn t.2.1
  | .zipL x y, e, g => isTupE g && optB (asCall2 e) fun t => bi k sc "zip" t.1 && notStar t.2.1 && notStar t.2.2 && x.ok k sc fn t.2.1 && y.ok k sc fn t.2.2
  | .zip x y, e, g => isTupE g && optB (asCall2 e) fun t => bi k sc "zip" t.1 && notStar t.2.1 && notStar t.2.2 && x.ok k sc fn t.2.1 && y.ok k sc fn t.2.2
  | .rng3 xs, e, _ => optB (asCall3 e) fun t => bi k sc "range" t.1 && X.oks k sc fn xs [t.2.1, t.2.2.1, t.2.2.2]
  | .enumT x, e, g => isTupE g && optB (asCall e) fun t => bi k sc "enumerate" t.1 && t.2.2.isEmpty && notStar t.2.1 && x.ok k sc fn t.2.1
  | .sgn x, e, _ => x.ok k sc fn e
end
def aoEq : Operator → Operator → Bool
  | .Add, .Add => true | .Sub, .Sub => true | .Mult, .Mult => true
  | _, _ => false
/-- an assignment of a comprehension to a name: as its own or as any other -/
def isFun (sc : Scope) : Bool := match sc.kind with
  | .function => true
  | _ => false
def setOk (sc : Scope) (x : Str) (px : Pos) : Expr → Bool
  | .ListComp _ _ scope pos => match sc.names.lookup x with
    | some .cell => true
    | some .local => (scope.names.any fun (n, k) => n == x && (k == .local || k == .cell)) || (isFun sc && (px.line == pos.line))
    | _ => false
  | _ => false
def isCompX : X → Bool
  | .comp _ _ _ _ _ _ => true
  | _ => false
def asRet : Stmt → Option Expr
  | .Return (some e) _ => some e
  | _ => none
def isRetN : Stmt → Bool
  | .Return none _ => true
  | _ => false
def isPass : Stmt → Bool
  | .Pass _ => true
  | _ => false
def asExpr : Stmt → Option Expr
  | .Expr e _ => some e
  | _ => none
def asSet : Stmt → Option (Str × Pos × Expr × Pos)
  | .Assign [.Name y py] e p => some (y, py, e, p)
  | _ => none
def asAsgT : Stmt → Option (List Expr × Expr)
  | .Assign [.Tuple es _ _] e _ => some (es, e)
  | _ => none
def asPar : Stmt → Option ((Str × Pos × Str × Pos) × Expr × Expr)
  | .Assign [.Tuple [.Name x px, .Name y py] _ _] (.Tuple [a, b] _ _) _ => some ((x, px, y, py), a, b)
  | _ => none
def isLoc (sc : Scope) (x : Str) : Bool := match sc.names.lookup x with
  | some .local => true
  | _ => false
def parC (sc : Scope) (t : (Str × Pos × Str × Pos) × Expr × Expr) : Bool :=
  isFun sc && isLoc sc t.1.1 && isLoc sc t.1.2.2.1 && (t.1.2.2.2.line == t.1.2.1.line) && !(t.1.2.2.1 == t.1.1) && notStar t.2.1 && notStar t.2.2 && !(foldedForSure 8 t.2.1 && foldedForSure 8 t.2.2) && !(constantsAlone 8 t.2.1 && constantsAlone 8 t.2.2)
def asSetIx : Stmt → Option (Expr × Expr × Expr)
  | .Assign [.Subscript a b _] e _ => some (a, b, e)
  | _ => none
def asSetAt : Stmt → Option (Expr × Str × Expr)
  | .Assign [.Attribute a f _] e _ => some (a, f, e)
  | _ => none
def asAug : Stmt → Option (Str × Operator × Expr)
  | .AugAssign (.Name y _) op e _ => some (y, op, e)
  | _ => none
def asAugIx : Stmt → Option (Expr × Expr × Operator × Expr)
  | .AugAssign (.Subscript b d _) op e _ => some (b, d, op, e)
  | _ => none
def asIf : Stmt → Option (Expr × List Stmt × List Stmt)
  | .If e a b _ => some (e, a, b)
  | _ => none
def asFor : Stmt → Option (Expr × Expr × List Stmt)
  | .For t it b [] _ => some (t, it, b)
  | _ => none
def asForI : Stmt → Option (Expr × Expr × Str × (Pos × Pos) × List Stmt)
  | .For (.Tuple es q tp) (.Call (.Attribute o a ap) [] [] cp) b [] _ => some (.Tuple es q tp, o, a, (ap, cp), b)
  | _ => none
def asWh : Stmt → Option (Expr × List Stmt)
  | .While e b [] _ => some (e, b)
  | _ => none
def asRaise : Stmt → Option (Str × Str)
  | .Raise (some (.Call (.Name x _) [.Constant (.str m) _ _] [] _)) none _ => some (x, m)
  | _ => none
def asTry : Stmt → Option (List Stmt × Str × Str × List Stmt)
  | .Try body [.ExceptHandler (some (.Name x _)) (some n) (b :: suite) _] [] [] _ => some (body, x, n, b :: suite)
  | _ => none
def asRaiseE : Stmt → Option Expr
  | .Raise (some e) none _ => some e
  | _ => none
def asTryM : Stmt → Option (List Stmt × List ExceptHandler)
  | .Try body hds [] [] _ => some (body, hds)
  | _ => none
/-- the name of a class -/
def clsN (k : Ck) (sc : Scope) (x : Str) : Bool := glb sc x && nm x && decide (x ∈ k.ts)
def clsNs (k : Ck) (sc : Scope) : List Str → List Expr → Bool
  | [], [] => true
  | c :: cs, .Name x _ :: es => decide (x = c) && clsN k sc x && clsNs k sc cs es
  | _, _ => false
/-- isinstance(e, C), isinstance(e, (C, ..)) -/
def ET.ok (k : Ck) (sc : Scope) (j : Nat) : ET → Expr → Bool
  | .is1 c, .Call (.Name f _) [.Name x _, .Name y _] [] _ => bi k sc "isinstance" f && decide (k.N[j]? = some x) && vis sc x && nm x && decide (y = c) && clsN k sc y
  | .isT cs, .Call (.Name f _) [.Name x _, .Tuple es _ _] [] _ => bi k sc "isinstance" f && decide (k.N[j]? = some x) && vis sc x && nm x && clsNs k sc cs es && decide (es.length ≤ 100)
  | .var i, .Name x _ => decide (k.N[i]? = some x) && vis sc x && nm x
  | .pred g cs, .Call (.Name f _) [.Name x _] [] _ => decide (f = g) && glb sc f && nm f && decide (k.N[j]? = some x) && vis sc x && nm x && decide ((g, cs) ∈ k.ob.prd)
  | .andN t i, .BoolOp .And [e, .UnaryOp .Not (.Name x _) _] _ => t.ok k sc j e && decide (k.N[i]? = some x) && vis sc x && nm x
  | _, _ => false
def ET.oks (k : Ck) (sc : Scope) (j : Nat) : List ET → List Expr → Bool
  | [], [] => true
  | t :: r, e :: es => notStar e && t.ok k sc j e && ET.oks k sc j r es
  | _, _ => false
def EX.ok (k : Ck) (sc : Scope) (j : Nat) (exc : Str) : EX → Expr → Bool
  | .int i, e => optB (asConst e) (isIntC i)
  | .non, e => optB (asConst e) isNonC
  | .fld f, e => optB (asAttr e) fun t => decide (t.2 = f) && optB (asName t.1) (fun x => decide (k.N[j]? = some x) && vis sc x && nm x) && (k.ob.xc.any fun p => decide (p.1 = exc) && decide (f ∈ p.2))
  | .tst t, e => t.ok k sc j e
def EX.oks (k : Ck) (sc : Scope) (j : Nat) (exc : Str) : List EX → List Expr → Bool
  | [], [] => true
  | t :: r, e :: es => notStar e && t.ok k sc j exc e && EX.oks k sc j exc r es
  | _, _ => false
def hsOk (k : Ck) (sc : Scope) (fn : Str → Bool) : List (Str × Nat × Nat × List EX) → List ExceptHandler → Bool
  | [], [] => true
  | (exc, j, i, xs) :: r, .ExceptHandler (some (.Name c _)) (some n) [.Assign [.Name y _] (.List es _) _] _ :: hds => decide (c = exc) && !(exc == ("ValueError" : Str)) && clsN k sc c && decide (k.N[j]? = some n) && isLoc sc n && decide (k.N[i]? = some y) && locb sc fn y && EX.oks k sc j exc xs es && hsOk k sc fn r hds
  | _, _ => false
def SE.ok (k : Ck) (sc : Scope) (fn : Str → Bool) (j : Nat) : SE → Stmt → Bool
  | .lst i ts, .Assign [.Name y _] (.List es _) _ => decide (k.N[i]? = some y) && locb sc fn y && ET.oks k sc j ts es
  | .app i t, .Expr (.Call (.Attribute (.Name y q) a ap) [e] [] p) _ => decide (("append" : Str) = a) && (ap.endLine == p.line) && decide (k.N[i]? = some y) && vis sc y && nm y && ET.oks k sc j [t] [e]
  | .set i t, .Assign [.Name y _] e _ => decide (k.N[i]? = some y) && locb sc fn y && notComp e && t.ok k sc j e
  | .orr i t, .Assign [.Name y _] (.BoolOp .Or [.Name z _, e] _) _ => decide (k.N[i]? = some y) && locb sc fn y && decide (k.N[i]? = some z) && vis sc z && nm z && t.ok k sc j e
  | .addL i ts, .Assign [.Name y _] (.BinOp (.Name z _) .Add (.List es _) _) _ => decide (k.N[i]? = some y) && locb sc fn y && decide (k.N[i]? = some z) && vis sc z && nm z && ET.oks k sc j ts es
  | _, _ => false
def SE.oks (k : Ck) (sc : Scope) (fn : Str → Bool) (j : Nat) : List SE → List Stmt → Bool
  | [], [] => true
  | t :: r, s :: ss => t.ok k sc fn j s && SE.oks k sc fn j r ss
  | _, _ => false
def asExpr1 : List Stmt → Option Expr
  | [.Expr e _] => some e
  | _ => none
def asSet1 : List Stmt → Option (Str × Pos × Expr × Pos)
  | [.Assign [.Name y py] e p] => some (y, py, e, p)
  | _ => none
def asIf1 : List Stmt → Option (Expr × List Stmt × List Stmt)
  | [.If e a b _] => some (e, a, b)
  | _ => none
def callOk (k : Ck) (sc : Scope) (fn : Str → Bool) (f dn : Nat) (xs : List X) (e : Expr) : Bool :=
  optB (asCall e) fun t => optB (k.Γ.lookup f) (fun F => decide (F.name = t.1) && decide (dn ≤ F.dn) && F.cs.isEmpty) && glb sc t.1 && nm t.1 && X.oks k sc fn xs (t.2.1 :: t.2.2)
def preL : List Int → List Expr → Option Expr
  | [], [e] => some e
  | i :: r, .Constant (.int z) _ _ :: es => if i = z then preL r es else none
  | _, _ => none
def TB.ok (k : Ck) (sc : Scope) (fn : Str → Bool) : TB → List Stmt → Bool
  | .setL i pre f dn _ xs, st => optB (asSet1 st) fun t => decide (k.N[i]? = some t.1) && locb sc fn t.1 && optB (asList t.2.2.1) fun es => optB (preL pre es) fun e => callOk k sc fn f dn xs e
  | .call f dn xs, st => optB (asExpr1 st) fun e => callOk k sc fn f dn xs e
  | .set i f dn xs, st => optB (asSet1 st) fun t => decide (k.N[i]? = some t.1) && locb sc fn t.1 && callOk k sc fn f dn xs t.2.2.1
  | .ife c a b, st => optB (asIf1 st) fun t => c.ok k sc fn t.1 && a.ok k sc fn t.2.1 && b.ok k sc fn t.2.2
  | .callS f dn xs, st => optB (asExpr1 st) fun e => callOk k sc fn f dn xs e
  | .callM m alts dn x xs, st => optB (asExpr1 st) fun e => optB (asMth e) fun t => decide (m = t.2.1) && notCall t.1 && (t.2.2.1.endLine == t.2.2.2.2.line) && decide (t.2.2.2.1.length < 30) && x.ok k sc fn t.1 && X.oks k sc fn xs t.2.2.2.1 && altsOk k m dn alts && !t.2.2.2.1.isEmpty
mutual
def S.ok (k : Ck) (sc : Scope) (fn : Str → Bool) : S → Stmt → Bool
  | .raise cls, s => optB (asRaise s) fun t => decide (t.1 = cls) && glb sc t.1 && nm t.1 && (decide (cls ∈ k.rs) && k.ob.xc.all fun p => decide (p.1 ≠ cls))
  | .tryE rs b exc j suite, s => optB (asTry s) fun t => (rs.all fun c => decide (c ∈ k.rs)) && !(exc == ("ValueError" : Str)) && decide (t.2.1 = exc) && clsN k sc t.2.1 && decide (k.N[j]? = some t.2.2.1) && isLoc sc t.2.2.1 && TB.ok k sc fn b t.1 && SE.oks k sc fn j suite t.2.2.2
  | .raiseF cls fns xs, s => optB (asRaiseE s) fun e => optB (asCall e) fun t => decide (t.1 = cls) && glb sc t.1 && nm t.1 && decide ((cls, fns) ∈ k.ob.xc) && X.oks k sc fn xs (t.2.1 :: t.2.2)
  | .tryM rs b hs, s => optB (asTryM s) fun t => (rs.all fun c => decide (c ∈ k.rs)) && TB.ok k sc fn b t.1 && hsOk k sc fn hs t.2 && !t.2.isEmpty
  | .forK tg x body, s => optB (asFor s) fun u => notSet u.2.1 && tg.ok k sc fn u.1 && x.ok k sc fn u.2.1 && S.oks k sc fn body u.2.2
  | .ret x, s => optB (asRet s) fun e => x.ok k sc fn e
  | .retN, s => isRetN s
  | .expr x, s => optB (asExpr s) fun e => notComp e && x.ok k sc fn e
  | .set i x, s => optB (asSet s) fun t => decide (k.N[i]? = some t.1) && locb sc fn t.1 && (notComp t.2.2.1 || (isCompX x && setOk sc t.1 t.2.1 t.2.2.1)) && x.ok k sc fn t.2.2.1
  | .asgL is x, s => optB (asAsgT s) fun t => tgNames k sc fn is t.1 && notComp t.2 && notTup t.2 && x.ok k sc fn t.2
  | .asg is x, s => optB (asAsgT s) fun t => tgNames k sc fn is t.1 && notComp t.2 && notTup t.2 && x.ok k sc fn t.2
  | .par i j x y, s => optB (asPar s) fun t => decide (k.N[i]? = some t.1.1) && decide (k.N[j]? = some t.1.2.2.1) && decide (i ≠ j) && parC sc t && x.ok k sc fn t.2.1 && y.ok k sc fn t.2.2
  | .dset o i v, s => optB (asSetIx s) fun t => notSlice t.2.1 && o.ok k sc fn t.1 && i.ok k sc fn t.2.1 && v.ok k sc fn t.2.2
  | .setIx o i v, s => optB (asSetIx s) fun t => notSlice t.2.1 && o.ok k sc fn t.1 && i.ok k sc fn t.2.1 && v.ok k sc fn t.2.2
  | .setAt cls f o v, s => optB (asSetAt s) fun t => decide (t.2.1 = f) && decide ((cls, f) ∈ k.ob.fl) && o.ok k sc fn t.1 && v.ok k sc fn t.2.2
  | .aug a i x, s => optB (asAug s) fun t => decide (k.N[i]? = some t.1) && locb sc fn t.1 && aoEq a.op t.2.1 && x.ok k sc fn t.2.2
  | .augIx a o i x, s => optB (asAugIx s) fun t => aoEq a.op t.2.2.1 && notSlice t.2.1 && o.ok k sc fn t.1 && i.ok k sc fn t.2.1 && x.ok k sc fn t.2.2.2
  | .ife c t f, s => optB (asIf s) fun u => c.ok k sc fn u.1 && S.oks k sc fn t u.2.1 && S.oks k sc fn f u.2.2
  | .for_ tg src body, s => optB (asFor s) fun u => notSet u.2.1 && tg.ok k sc fn u.1 && src.ok k sc fn u.2.1 u.1 && S.oks k sc fn body u.2.2
  | .forI tg x body, s => optB (asForI s) fun u => decide (u.2.2.1 = "items") && notCall u.2.1 && (u.2.2.2.1.1.endLine == u.2.2.2.1.2.line) && tg.ok k sc fn u.1 && x.ok k sc fn u.2.1 && S.oks k sc fn body u.2.2.2.2
  | .wh c body, s => optB (asWh s) fun u => c.ok k sc fn u.1 && S.oks k sc fn body u.2
  | .pass, s => isPass s
  | .kill _, _ => false
  | .never, _ => true
def S.oks (k : Ck) (sc : Scope) (fn : Str → Bool) : List S → List Stmt → Bool
  | [], st => st.isEmpty
  | .kill _ :: r, st => S.oks k sc fn r st
  | s :: r, st => match st with
    | t :: u => s.ok k sc fn t && S.oks k sc fn r u
    | [] => false
end
end Lv
set_option Elab.async false
set_option linter.all false
set_option maxRecDepth 100000
set_option autoImplicit false
/-! the check is sound -/
namespace Lv
open PySem PySem.Spec PyProof.Rows L2
/-- a class's value, by its name -/
def CV (mg : Str → Option Value) (c : Str) (cv : Value) : Prop := (mg c = some cv ∨ (mg c = none ∧ bootBuiltins c = some cv)) ∧ ∃ v : V, RelV v cv ∧ ∀ u, RelV v u → u = cv
/-- what is known of a class whose exceptions are raised -/
structure ExR (K : PySem.W.Frag) (mg : Str → Option Value) (ts : List Str) (cls : Str) (D : Addr) : Prop where
  g : mg cls = some (.ref D)
  k : PySem.W.keepIn K (.ref D) = true
  b : PySem.W.subIn K (.ref D) (.type "BaseException") = some true
  t : PySem.W.typeIn K (.ref D) = some (.type "type")
  c : ExcC K D
  q : ∀ c ∈ ts, ∃ cv, CV mg c cv ∧ PySem.W.kitOne K (.ref D) cv = some (subE cls c) ∧ (c ≠ ("ValueError" : Str) → PySem.W.exmOne K (.ref D) cv = some (subE cls c))
/-- a def that asks of which classes a caught exception is -/
def PrOk (P : Program) (w : World) (K : PySem.W.Frag) (mg : Str → Option Value) (base : Heap) (ts : List Str) (g : Str) (cs : List Str) : Prop := ∃ f x fd, mg g = some (.ref f) ∧ PySem.W.keepIn K (.ref f) = true ∧ Binds K fd [x] [] ∧
  ∀ (A : Around) (outer : List PySem.Env) (s : Shared) (H : Hp) (a : Addr) (oe : Obj) (D : Addr) (dd : Option Addr) (fs : List (Str × Lv.D)) (cls : Str) (args : Args) (Q : VK), L2H.RoomH 1 A → Env0 P w K mg base A outer s H → L2H.PinOk outer H s (a, oe) → Zc (.ref D) dd oe → (∃ vs, oe.data = .fields vs) → ExR K mg ts cls D → (∃ c ρ G μ, c.K = K ∧ c.mg = mg ∧ XdG dd fs G ∧ Rel c ρ G μ H ∧ ∀ ρ' G' H', ρ <+: ρ' → Same G G' → Rel c ρ' G' μ H' → Q (.bl (cs.any (subE cls))) H') →
    BindsTo s fd args [(x, .ref a)] → codeAny (model P w) A (.call (.ref f) args) (CR (L2.CX P w) outer P w H s Q E0) s
/-- a class of exceptions without an __init__ -/
def ExPl (K : PySem.W.Frag) (mg : Str → Option Value) (cls : Str) : Prop := ∃ D, mg cls = some (.ref D) ∧ PySem.W.excIn K D [.type "ValueError", .type "Exception", .type "BaseException", .type "object"] "ValueError.__new__" = true
structure CxOk (k : Ck) (sc : Scope) (fn : Str → Bool) (lv : Nat) (CX : CXT) (E : XK) (W : Cx) : Prop where
  hN : W.N = k.N
  nd : k.N.Nodup
  hsc : W.env.scope = sc
  calm : W.calm = true
  room : Room lv W.A
  pass : Passes CX W E
  p0 : ∀ W', Passes CX W' E0
  own : PassesOwn (model W.prog W.w) W.A W.env W.xe
  fns : ∀ i F, (i, F) ∈ k.Γ → F.cs = [] → ∃ f fd, W.mg F.name = some (.ref f) ∧ PySem.W.keepIn W.K (.ref f) = true ∧ (∀ j, j ≤ F.dn → Binds W.K fd F.ps (List.replicate j .none)) ∧ FnOk W.prog W.w W.K W.mg W.base CX lv f fd F.ps (F.sp W.K W.mg)
  mts : ∀ i F, (i, F) ∈ k.Γ → F.name ≠ ("__init__" : Str) → ∀ c ∈ F.cs, MtAt W.prog W.w W.K W.mg W.base CX lv F c
  mks : ∀ i F, (i, F) ∈ k.Γ → F.name = ("__init__" : Str) → ∀ c ∈ F.cs, MkAt W.prog W.w W.K W.mg W.base CX lv F c
  ob : ObOk W.K W.mg k.ob
  xis : ∀ cls fns, (cls, fns) ∈ k.ob.xc → XiAt W.prog W.w W.K W.mg W.base CX lv cls fns
  prs : ∀ g cs, (g, cs) ∈ k.ob.prd → PrOk W.prog W.w W.K W.mg W.base k.ts g cs
  lv1 : 1 ≤ lv
  fks : ∀ i F, (i, F) ∈ k.Γ → F.cs = [] → F.dn = 1 → F.ps.length = 2 → ∃ f fd, W.mg F.name = some (.ref f) ∧ PySem.W.keepIn W.K (.ref f) = true ∧ KBn W.K fd F.ps 1 (F.ps.drop 1) (fun us ws => us ++ ws) (fun vs zs => vs ++ zs) ∧ FnOk W.prog W.w W.K W.mg W.base CX lv f fd F.ps (F.sp W.K W.mg)
  blt : ∀ b ∈ k.bs, W.mg b = none
  cst : ∀ x d, k.cs.lookup x = some d → ∃ u v, W.mg x = some u ∧ scv d = some v ∧ RelV v u
  fnx : ∀ x, fn x = true → W.fn x = true
  tk : Takes W (fun cls d _ H => E cls d H)
  ex : ∀ cls ∈ k.rs, ∃ D, ExR W.K W.mg k.ts cls D
  exx : ∀ cls ∈ k.rs, (∀ p ∈ k.ob.xc, p.1 ≠ cls) → ExPl W.K W.mg cls
  tc : ∀ c ∈ k.ts, ∃ cv, CV W.mg c cv
section
variable {k : Ck} {sc : Scope} {fn : Str → Bool} {lv : Nat} {CX : CXT} {E : XK} {W : Cx}
theorem vis_ok (h : CxOk k sc fn lv CX E W) {x : Str} (q : vis sc x = true) : Vis W.env.scope x := by
  rw [h.hsc]
  unfold vis at q
  split at q
  · exact .inl (by assumption)
  · exact .inr (.inl (by assumption))
  · exact .inr (.inr (by assumption))
  · cases q
theorem loc_ok (h : CxOk k sc fn lv CX E W) {x : Str} (q : locb sc fn x = true) : Loc W.env.scope x ∧ (W.fn x = true ∨ W.env.scope.names.lookup x = some .local) := by
  rw [h.hsc]
  unfold locb at q
  split at q
  · exact ⟨.inl (by assumption), .inr (by assumption)⟩
  · exact ⟨.inr (by assumption), .inl (h.fnx x q)⟩
  · cases q
theorem gl_ok (h : CxOk k sc fn lv CX E W) {x : Str} (q : glb sc x = true) : Gl W x := by
  unfold glb at q
  split at q
  · show W.env.scope.names.lookup x = some .globalImplicit
    rw [h.hsc]
    assumption
  · cases q
theorem nm_ok {x : Str} (q : nm x = true) : (x == ("__debug__" : Str)) = false ∧ (x == ("__classdict__" : Str)) = false ∧ x ≠ "__name__" := by
  unfold nm at q
  rw [Bool.and_eq_true, Bool.and_eq_true, Bool.not_eq_true', Bool.not_eq_true', Bool.not_eq_true'] at q
  exact ⟨q.1.1, q.1.2, beq_eq_false_iff_ne.mp q.2⟩
theorem bi_ok (h : CxOk k sc fn lv CX E W) {b x : Str} (q : bi k sc b x = true) : x = b ∧ Gl W x ∧ W.mg x = none := by
  unfold bi at q
  rw [Bool.and_eq_true, Bool.and_eq_true] at q
  exact ⟨of_decide_eq_true q.1.1, gl_ok h q.1.2, h.blt x (of_decide_eq_true q.2)⟩
theorem star_cons {e : Expr} {es : List Expr} {env : PySem.Env} (h : notStar e = true) : starEach (e :: es) env = (false, eval e env) :: starEach es env := by
  cases e <;> first | rfl | cases h
theorem lookup_mem {α β : Type} [BEq α] [LawfulBEq α] {a : α} {b : β} : ∀ {l : List (α × β)}, l.lookup a = some b → (a, b) ∈ l
  | [], h => by cases h
  | (x, y) :: r, h => by
    rw [List.lookup_cons] at h
    cases e : a == x with
    | true =>
      rw [e] at h
      cases h
      rw [beq_iff_eq.mp e]
      exact List.mem_cons_self
    | false =>
      rw [e] at h
      exact List.mem_cons_of_mem _ (lookup_mem h)
def allNS (es : List Expr) : Prop := ∀ e ∈ es, notStar e = true
theorem star_any {env : PySem.Env} {pos : Pos} : ∀ {es : List Expr}, allNS es → (backTo pos (starEach es env)).any (·.1) = false
  | [], _ => rfl
  | e :: es, h => by
    rw [star_cons (h e List.mem_cons_self)]
    show (false || (backTo pos (starEach es env)).any (·.1)) = false
    rw [star_any fun x hx => h x (List.mem_cons_of_mem _ hx)]
    rfl
theorem star_all {env : PySem.Env} {pos : Pos} : ∀ {es : List Expr}, allNS es → (backTo pos (starEach es env)).all (fun x => !x.1) = true
  | [], _ => rfl
  | e :: es, h => by
    rw [star_cons (h e List.mem_cons_self)]
    show (true && (backTo pos (starEach es env)).all (fun x => !x.1)) = true
    rw [star_all fun x hx => h x (List.mem_cons_of_mem _ hx)]
    rfl
theorem few_ok {env : PySem.Env} {pos : Pos} {es : List Expr} (h : allNS es) (hl : es.length < 30) :
    ((backTo pos (starEach es env)).all (fun x => !x.1) && (backToKw pos (keywordEach [] env)).all (fun x => x.1.isSome)
      && decide (es.length + ([] : List Keyword).length + (if ([] : List Keyword).isEmpty then 0 else 1) < 30)) = true := by
  rw [star_all h]
  show (true && true && decide (es.length + 0 + 0 < 30)) = true
  rw [decide_eq_true (by omega)]
  rfl
theorem base_ok {e : Expr} {a : Str} {env : PySem.Env} {t : Sem Value} (h : notCall e = true) : attributeBase e a env t = t := by
  unfold attributeBase
  split
  · cases h
  · rfl
theorem plain_ok {e : Expr} (h : notSlice e = true) : PlainIx e := fun o i => by
  cases e <;> first | rfl | cases h
theorem set_ok {e : Expr} (h : notSet e = true) (env : PySem.Env) : ∀ x, foldedSetIterable e env x = pure x := fun x => by
  cases e <;> first | rfl | cases h
theorem mark_ok {e : Expr} {op : CmpOp} (h : notSet e = true) : behindInMarks op e = false := by
  cases e <;> first | rfl | cases h
theorem swap_none {e : Expr} {l : Nat} {env : PySem.Env} (h : notComp e = true) {t : Option Expr} : swapsWith e t l env = pure false := by
  cases e <;> first | rfl | cases h
theorem plainT_ok {e : Expr} {env : PySem.Env} (h : plainT e = true) : ∀ whole, isTrue e env whole = (do let v ← whole; standAt e.pos; holding [v] (truthy v)) := fun whole => by
  cases e <;> first | rfl | cases h
theorem pt_of {K : PySem.W.Frag} {mg : Str → Option Value} {e : Expr} {f : FE} (h : PE W e (TX K mg E f)) (hp : plainT e = true) : PT W e (TXb K mg E f) :=
  PT.imp (pt_val h (plainT_ok hp)) fun σ H Q q => txb_tx σ H Q q
/-- the two readings of an expression -/
def Snd (W : Cx) (E : XK) (e : Expr) (f : FE) : Prop := PE W e (TX W.K W.mg E f) ∧ PT W e (TXb W.K W.mg E f)
theorem snd_of {e : Expr} {f : FE} (h : PE W e (TX W.K W.mg E f)) (hp : plainT e = true) : Snd W E e f := ⟨h, pt_of h hp⟩
theorem opEq_ok {a b : Operator} (h : opEq a b = true) : a = b := by
  cases a <;> cases b <;> first | rfl | cases h
theorem cmEq_ok {a b : CmpOp} (h : cmEq a b = true) : a = b := by
  cases a <;> cases b <;> first | rfl | cases h
theorem aoEq_ok {a b : Operator} (h : aoEq a b = true) : a = b := by
  cases a <;> cases b <;> first | rfl | cases h
theorem bi_boot (b : BI) : bootBuiltins b.nm = some b.val := by
  cases b <;> decide +kernel
theorem ty_boot (t : Ty) : bootBuiltins (Str.ofString t.nm) = some (.type t.nm) := by
  cases t <;> decide +kernel
theorem bi_nm (b : BI) : b.nm ≠ "__name__" ∧ (b.nm == ("__debug__" : Str)) = false := by
  cases b <;> exact ⟨by decide +kernel, by decide +kernel⟩
theorem ty_nm (t : Ty) : Str.ofString t.nm ≠ "__name__" ∧ (Str.ofString t.nm == ("__debug__" : Str)) = false := by
  cases t <;> exact ⟨by decide +kernel, by decide +kernel⟩
theorem snd_cmp {e : Expr} {K : PySem.W.Frag} {mg : Str → Option Value} {f : FE} {t : TE} (h1 : PE W e t) (h2 : PT W e (tTest t)) (q : ∀ σ H Q, TX K mg E f σ H Q → t σ H Q) : PE W e (TX K mg E f) ∧ PT W e (TXb K mg E f) :=
  ⟨PE.imp h1 q, PT.imp h2 fun σ H Q z => q σ H _ (txb_tx σ H Q z)⟩
theorem tx_chain {K : PySem.W.Frag} {mg : Str → Option Value} {c c' : Cmp} {fa fb fc : FE} : ∀ σ H Q, TX K mg E (fChain c c' fa fb fc) σ H Q → tChain (rPy K c.g) (rPy K c'.g) (TX K mg E fa) (TX K mg E fb) (TX K mg E fc) σ H Q := by
  rintro σ H Q ⟨c0, env, ρ, G, μ, hK, hm, re, eo, h⟩
  subst hK
  refine tx_use rfl hm re eo h fun d v ρ1 G1 μ1 H1 p1 e1 r1 eo1 hv h1 => ?_
  refine tx_use rfl hm r1 eo1 h1 fun e u ρ2 G2 μ2 H2 p2 e2 r2 eo2 hu h2 => ?_
  refine cmp_ok c c0 ρ2 G2 H2 μ2 d e v u _ rfl r2 (hv.mono p2 e2) hu (h2.bind.imp fun t ρ3 G3 μ3 H3 p3 e3 r3 h3 z hz => ?_)
  cases t with
  | bl b =>
    cases hz
    refine ⟨b, rfl, ?_⟩
    cases b with
    | true =>
      refine (show (if true = true then _ else _) from ?_)
      rw [if_pos rfl]
      refine tx_use rfl hm r3 (eo2.up p3 e3) h3 fun g w ρ4 G4 μ4 H4 p4 e4 r4 eo4 hw h4 => ?_
      exact cmp_ok c' c0 ρ4 G4 H4 μ4 e g u w _ rfl r4 (hu.mono (p3.trans p4) (e3.trans e4)) hw h4
    | false =>
      refine (show (if false = true then _ else _) from ?_)
      rw [if_neg Bool.false_ne_true]
      exact Fin.ok r3 h3 _ rfl
  | _ => exact fin_none h3
end
end Lv
set_option Elab.async false
set_option linter.all false
set_option maxRecDepth 100000
set_option autoImplicit false
/-! the check is sound: expressions -/
namespace Lv
open PySem PySem.Spec PyProof.Rows L2
section
variable {k : Ck} {lv : Nat} {CX : CXT}
theorem blk_ok {sc : Scope} {fn : Str → Bool} {E : XK} {W : Cx} (h : CxOk k sc fn lv CX E W) (scope : Scope) (s : Shared) (H : Hp) (C : Addr) (cl : List (Str × Addr)) (fp : List Addr) :
    CxOk k (relS scope sc) (fun x => scope.names.lookup x == some .cell) lv CX E0 (W.blk s H scope (compEnvC scope cl C W.env) fp) :=
  { hN := h.hN, nd := h.nd, hsc := by rw [← h.hsc]; rfl, calm := h.calm, room := h.room, pass := h.p0 _, p0 := h.p0, own := PassesOwn.never, fns := h.fns, mts := h.mts, mks := h.mks, ob := h.ob, prs := h.prs, xis := h.xis, lv1 := h.lv1, fks := h.fks, blt := h.blt, cst := h.cst, fnx := fun x q => q, tk := takes0, ex := h.ex, exx := h.exx, tc := h.tc }
theorem tgNames_ok {sc : Scope} {fn : Str → Bool} {E : XK} {W : Cx} (h : CxOk k sc fn lv CX E W) : ∀ (is : List Nat) (es : List Expr), tgNames k sc fn is es = true → PGs W es (gs is) ∧ (assignEach es W.env).length = is.length ∧ (assignEach es W.env).findIdx? (·.1) = none
  | [], [], _ => ⟨pgs_nil, rfl, rfl⟩
  | i :: is, .Name x p :: es, q => by
    have q' : (decide (k.N[i]? = some x) && locb sc fn x && tgNames k sc fn is es) = true := q
    rw [Bool.and_eq_true, Bool.and_eq_true] at q'
    obtain ⟨h1, h2, h3⟩ := tgNames_ok h is es q'.2
    obtain ⟨l1, l2⟩ := loc_ok h q'.1.2
    refine ⟨pgs_cons (pg_name (by rw [h.hN]; exact h.nd) (by rw [h.hN]; exact of_decide_eq_true q'.1.1) l1 l2) h1, by show (assignEach es W.env).length + 1 = is.length + 1; rw [h2], ?_⟩
    have e : assignEach (.Name x p :: es) W.env = (false, assign (.Name x p) W.env) :: assignEach es W.env := rfl
    rw [e, List.findIdx?_cons, h3]
    rfl
  | [], _ :: _, q => by cases q
  | _ :: _, [], q => by cases q
  | i :: is, e :: es, q => by
    cases e with
    | Name x p =>
      have q' : (decide (k.N[i]? = some x) && locb sc fn x && tgNames k sc fn is es) = true := q
      rw [Bool.and_eq_true, Bool.and_eq_true] at q'
      obtain ⟨h1, h2, h3⟩ := tgNames_ok h is es q'.2
      obtain ⟨l1, l2⟩ := loc_ok h q'.1.2
      refine ⟨pgs_cons (pg_name (by rw [h.hN]; exact h.nd) (by rw [h.hN]; exact of_decide_eq_true q'.1.1) l1 l2) h1, by show (assignEach es W.env).length + 1 = is.length + 1; rw [h2], ?_⟩
      have e : assignEach (.Name x p :: es) W.env = (false, assign (.Name x p) W.env) :: assignEach es W.env := rfl
      rw [e, List.findIdx?_cons, h3]
      rfl
    | _ => cases q
theorem tg_sound {sc : Scope} {fn : Str → Bool} {E : XK} {W : Cx} (h : CxOk k sc fn lv CX E W) (tg : Tg) (e : Expr) (q : tg.ok k sc fn e = true) : PG W e (tg.g W.K) := by
  cases tg with
  | nm i =>
    cases e with
    | Name x p =>
      have q' : (decide (k.N[i]? = some x) && locb sc fn x) = true := q
      rw [Bool.and_eq_true] at q'
      obtain ⟨l1, l2⟩ := loc_ok h q'.2
      exact pg_name (by rw [h.hN]; exact h.nd) (by rw [h.hN]; exact of_decide_eq_true q'.1) l1 l2
    | _ => cases q
  | tup is =>
    cases e with
    | Tuple es n p =>
      obtain ⟨h1, h2, h3⟩ := tgNames_ok h is es q
      exact pg_tup h.calm h1 h2 h3
    | _ => cases q
end
end Lv
set_option Elab.async false
set_option linter.all false
set_option maxRecDepth 100000
set_option autoImplicit false
/-! the check is sound: expressions, all -/
namespace Lv
open PySem PySem.Spec PyProof.Rows L2
theorem allNS_nil : allNS [] := fun _ h => nomatch h
theorem allNS_cons {e : Expr} {es : List Expr} (h : notStar e = true) (t : allNS es) : allNS (e :: es) := fun x hx => by
  rcases List.mem_cons.mp hx with q | q
  · rw [q]
    exact h
  · exact t x q
theorem asName_eq {e : Expr} {x : Str} (h : asName e = some x) : ∃ p, e = .Name x p := by
  cases e <;> first | (cases h; exact ⟨_, rfl⟩) | cases h
theorem asConst_eq {e : Expr} {x : Const} (h : asConst e = some x) : ∃ j p, e = .Constant x j p := by
  cases e <;> first | (cases h; exact ⟨_, _, rfl⟩) | cases h
theorem asBin_eq {e : Expr} {t : Expr × Operator × Expr} (h : asBin e = some t) : ∃ p, e = .BinOp t.1 t.2.1 t.2.2 p := by
  cases e <;> first | (cases h; exact ⟨_, rfl⟩) | cases h
theorem asNeg_eq {e t : Expr} (h : asNeg e = some t) : ∃ p, e = .UnaryOp .USub t p := by
  unfold asNeg at h
  split at h
  · cases h
    exact ⟨_, rfl⟩
  · cases h
theorem asNot_eq {e t : Expr} (h : asNot e = some t) : ∃ p, e = .UnaryOp .Not t p := by
  unfold asNot at h
  split at h
  · cases h
    exact ⟨_, rfl⟩
  · cases h
theorem asCmp_eq {e : Expr} {t : Expr × CmpOp × Expr} (h : asCmp e = some t) : ∃ p, e = .Compare t.1 [t.2.1] [t.2.2] p := by
  unfold asCmp at h
  split at h
  · cases h
    exact ⟨_, rfl⟩
  · cases h
theorem asChain_eq {e : Expr} {t : Expr × CmpOp × Expr × CmpOp × Expr} (h : asChain e = some t) : ∃ p, e = .Compare t.1 [t.2.1, t.2.2.2.1] [t.2.2.1, t.2.2.2.2] p := by
  unfold asChain at h
  split at h
  · cases h
    exact ⟨_, rfl⟩
  · cases h
theorem asIsN_eq {e t : Expr} (h : asIsN e = some t) : ∃ j q p, e = .Compare t [.Is] [.Constant .none j q] p := by
  unfold asIsN at h
  split at h
  · cases h
    exact ⟨_, _, _, rfl⟩
  · cases h
theorem asNotN_eq {e t : Expr} (h : asNotN e = some t) : ∃ j q p, e = .Compare t [.IsNot] [.Constant .none j q] p := by
  unfold asNotN at h
  split at h
  · cases h
    exact ⟨_, _, _, rfl⟩
  · cases h
theorem asAnd_eq {e : Expr} {t : List Expr} (h : asAnd e = some t) : ∃ p, e = .BoolOp .And t p := by
  unfold asAnd at h
  split at h
  · cases h
    exact ⟨_, rfl⟩
  · cases h
theorem asOr_eq {e : Expr} {t : List Expr} (h : asOr e = some t) : ∃ p, e = .BoolOp .Or t p := by
  unfold asOr at h
  split at h
  · cases h
    exact ⟨_, rfl⟩
  · cases h
theorem asList_eq {e : Expr} {t : List Expr} (h : asList e = some t) : ∃ p, e = .List t p := by
  cases e <;> first | (cases h; exact ⟨_, rfl⟩) | cases h
theorem asTup_eq {e : Expr} {t : List Expr} (h : asTup e = some t) : ∃ n p, e = .Tuple t n p := by
  cases e <;> first | (cases h; exact ⟨_, _, rfl⟩) | cases h
theorem asSub_eq {e : Expr} {t : Expr × Expr} (h : asSub e = some t) : ∃ p, e = .Subscript t.1 t.2 p := by
  cases e <;> first | (cases h; exact ⟨_, rfl⟩) | cases h
theorem asSlice_eq {e : Expr} {t : Expr × Option Expr × Option Expr} (h : asSlice e = some t) : ∃ q p, e = .Subscript t.1 (.Slice t.2.1 t.2.2 none q) p := by
  unfold asSlice at h
  split at h
  · cases h
    exact ⟨_, _, rfl⟩
  · cases h
theorem asRev_eq {e t : Expr} (h : asRev e = some t) : ∃ k p1 p2 p3 p, e = .Subscript t (.Slice none none (some (.UnaryOp .USub (.Constant (.int 1) k p1) p2)) p3) p := by
  unfold asRev at h
  split at h
  · split at h
    · rename_i i _ _ _ _ _ hi
      cases hi
      cases h
      exact ⟨_, _, _, _, _, rfl⟩
    · cases h
  · cases h
theorem asIsB_eq {e : Expr} {t : Expr × Bool × Bool} (h : asIsB e = some t) : (t.2.1 = false ∧ ∃ j q p, e = .Compare t.1 [.Is] [.Constant (.bool t.2.2) j q] p) ∨ (t.2.1 = true ∧ ∃ j q p, e = .Compare t.1 [.IsNot] [.Constant (.bool t.2.2) j q] p) := by
  unfold asIsB at h
  split at h
  · cases h
    exact .inl ⟨rfl, _, _, _, rfl⟩
  · cases h
    exact .inr ⟨rfl, _, _, _, rfl⟩
  · cases h
theorem asSetd_eq {e : Expr} {t : Expr × Str × Pos × Expr × Expr × Pos} (h : asSetd e = some t) : e = .Call (.Attribute t.1 t.2.1 t.2.2.1) [t.2.2.2.1, t.2.2.2.2.1] [] t.2.2.2.2.2 := by
  unfold asSetd at h
  split at h
  · cases h
    rfl
  · cases h
theorem asGet_eq {e : Expr} {t : Expr × Str × Pos × Expr × List Expr × Pos} (h : asGet e = some t) : e = .Call (.Attribute t.1 t.2.1 t.2.2.1) (t.2.2.2.1 :: t.2.2.2.2.1) [] t.2.2.2.2.2 := by
  unfold asGet at h
  split at h
  · cases h
    rfl
  · cases h
theorem isDict0_eq {e : Expr} (h : isDict0 e = true) : ∃ p, e = .Dict [] [] p := by
  unfold isDict0 at h
  split at h
  · exact ⟨_, rfl⟩
  · cases h
theorem nosl_ok {e : Expr} (h : notSlice e = true) : NoSl e := by
  intro ov iv
  cases e <;> first | rfl | cases h
theorem asLSet_eq {e : Expr} {t : Str × Str × Expr} (h : asLSet e = some t) : ∃ q0 r0 p2 p, e = .Call (.Name t.1 q0) [.Call (.Name t.2.1 r0) [t.2.2] [] p2] [] p := by
  unfold asLSet at h
  split at h
  · cases h
    exact ⟨_, _, _, _, rfl⟩
  · cases h
theorem asLrg_eq {e : Expr} {t : Str × Str × Expr × List Expr} (h : asLrg e = some t) : ∃ q r p2 p, e = .Call (.Name t.1 q) [.Call (.Name t.2.1 r) (t.2.2.1 :: t.2.2.2) [] p2] [] p := by
  unfold asLrg at h
  split at h
  · cases h
    exact ⟨_, _, _, _, rfl⟩
  · cases h
theorem asCall_eq {e : Expr} {t : Str × Expr × List Expr} (h : asCall e = some t) : ∃ q p, e = .Call (.Name t.1 q) (t.2.1 :: t.2.2) [] p := by
  unfold asCall at h
  split at h
  · cases h
    exact ⟨_, _, rfl⟩
  · cases h
theorem asCall2_eq {e : Expr} {t : Str × Expr × Expr} (h : asCall2 e = some t) : ∃ q p, e = .Call (.Name t.1 q) [t.2.1, t.2.2] [] p := by
  unfold asCall2 at h
  split at h
  · cases h
    exact ⟨_, _, rfl⟩
  · cases h
theorem asIsi_eq {e : Expr} {t : Str × Expr × Str} (h : asIsi e = some t) : ∃ q r p, e = .Call (.Name t.1 q) [t.2.1, .Name t.2.2 r] [] p := by
  unfold asIsi at h
  split at h
  · cases h
    exact ⟨_, _, _, rfl⟩
  · cases h
theorem asMth_eq {e : Expr} {t : Expr × Str × Pos × List Expr × Pos} (h : asMth e = some t) : e = .Call (.Attribute t.1 t.2.1 t.2.2.1) t.2.2.2.1 [] t.2.2.2.2 := by
  unfold asMth at h
  split at h
  · cases h
    rfl
  · cases h
theorem asComp_eq {e : Expr} {t : Expr × Expr × Expr × List Expr × Scope} (h : asComp e = some t) : ∃ p, e = .ListComp t.1 [⟨t.2.1, t.2.2.1, t.2.2.2.1, 0⟩] t.2.2.2.2 p := by
  unfold asComp at h
  split at h
  · cases h
    exact ⟨_, rfl⟩
  · cases h
theorem isTupE_eq {e : Expr} (h : isTupE e = true) : ∃ es n p, e = .Tuple es n p := by
  cases e <;> first | exact ⟨_, _, _, rfl⟩ | cases h
theorem isIntC_eq {c : Const} {i : Int} (h : isIntC i c = true) : c = .int i := by
  cases c <;> first | (rw [of_decide_eq_true h]) | cases h
theorem isBlC_eq {c : Const} {b : Bool} (h : isBlC b c = true) : c = .bool b := by
  cases c with
  | bool d =>
    have h' : (b == d) = true := h
    rw [beq_iff_eq.mp h']
  | _ => cases h
theorem isStrC_eq {c : Const} {x : Str} (h : isStrC x c = true) : c = .str x := by
  cases c <;> first | (rw [of_decide_eq_true h]) | cases h
theorem isNonC_eq {c : Const} (h : isNonC c = true) : c = .none := by
  cases c <;> first | rfl | cases h
theorem sameC_eq {c d : D} (h : sameC c d = true) : c = d := by
  cases c <;> cases d <;> first | (rw [of_decide_eq_true h]) | cases h
theorem asCall0_eq {e : Expr} {x : Str} (h : asCall0 e = some x) : ∃ q p, e = .Call (.Name x q) [] [] p := by
  unfold asCall0 at h
  split at h
  · cases h
    exact ⟨_, _, rfl⟩
  · cases h
theorem asCallA_eq {e : Expr} {t : Str × List Expr} (h : asCallA e = some t) : ∃ q p, e = .Call (.Name t.1 q) t.2 [] p := by
  unfold asCallA at h
  split at h
  · cases h
    exact ⟨_, _, rfl⟩
  · cases h
theorem asAttr_eq {e : Expr} {t : Expr × Str} (h : asAttr e = some t) : ∃ p, e = .Attribute t.1 t.2 p := by
  unfold asAttr at h
  split at h
  · cases h
    exact ⟨_, rfl⟩
  · cases h
theorem asCallK_eq {e : Expr} {t : Str × Expr × Str × Expr} (h : asCallK e = some t) : ∃ q r p, e = .Call (.Name t.1 q) [t.2.1] [⟨some t.2.2.1, t.2.2.2, r⟩] p := by
  unfold asCallK at h
  split at h
  · cases h
    exact ⟨_, _, _, rfl⟩
  · cases h
theorem asDict_eq {e : Expr} {t : List (Option Expr) × List Expr} (h : asDict e = some t) : ∃ p, e = .Dict t.1 t.2 p := by
  cases e <;> first | (cases h; exact ⟨_, rfl⟩) | cases h
theorem asMakeK_eq {e : Expr} {t : Str × Str × Expr} (h : asMakeK e = some t) : ∃ q r p, e = .Call (.Name t.1 q) [] [⟨some t.2.1, t.2.2, r⟩] p := by
  unfold asMakeK at h
  split at h
  · cases h
    exact ⟨_, _, _, rfl⟩
  · cases h
theorem asRg3_eq {e : Expr} {t : Str × Str × Expr × Expr × Expr} (h : asRg3 e = some t) : ∃ q r p2 p, e = .Call (.Name t.1 q) [.Call (.Name t.2.1 r) [t.2.2.1, t.2.2.2.1, t.2.2.2.2] [] p2] [] p := by
  unfold asRg3 at h
  split at h
  · cases h
    exact ⟨_, _, _, _, rfl⟩
  · cases h
theorem asCall3_eq {e : Expr} {t : Str × Expr × Expr × Expr} (h : asCall3 e = some t) : ∃ q p, e = .Call (.Name t.1 q) [t.2.1, t.2.2.1, t.2.2.2] [] p := by
  unfold asCall3 at h
  split at h
  · cases h
    exact ⟨_, _, rfl⟩
  · cases h
theorem and_ok {a b : Bool} (h : (a && b) = true) : a = true ∧ b = true := Bool.and_eq_true_iff.mp h
theorem vals_non : ∀ n, Vals (List.replicate n .non) (List.replicate n .none)
  | 0 => .nil
  | n + 1 => .cons rfl (vals_non n)
theorem TX.to {K : PySem.W.Frag} {mg : Str → Option Value} {E : XK} {f : FE} {σ : L2.St} {H : Hp} {Q Q' : VK} (h : TX K mg E f σ H Q) (q : ∀ v H', Q v H' → Q' v H') : TX K mg E f σ H Q' := by
  obtain ⟨c, env, ρ, G, μ, hK, hm, re, eo, z⟩ := h
  exact ⟨c, env, ρ, G, μ, hK, hm, re, eo, z.imp fun d ρ' G' μ' H' _ _ _ w v hv => q v H' (w v hv)⟩
theorem TXs.to {K : PySem.W.Frag} {mg : Str → Option Value} {E : XK} {f : FEs} {σ : L2.St} {H : Hp} {Q Q' : List V → Hp → Prop} (h : TXs K mg E f σ H Q) (q : ∀ v H', Q v H' → Q' v H') : TXs K mg E f σ H Q' := by
  obtain ⟨c, env, ρ, G, μ, hK, hm, re, eo, z⟩ := h
  exact ⟨c, env, ρ, G, μ, hK, hm, re, eo, z.imp fun d ρ' G' μ' H' _ _ _ w v hv => q v H' (w v hv)⟩
theorem tx_callK {K : PySem.W.Frag} {mg : Str → Option Value} {E : XK} {F : Fn} {fz : Bool} {fx fy : FE} : ∀ σ H Q, TX K mg E (fun env μ => rb (fCons fx (fCons fy fNil) env μ) (dCall F 0 fz)) σ H Q → tCallN 1 1 (F.sp K mg) (fun vs zs => vs ++ zs) E (tCons (TX K mg E fx) tNil) (tCons (TX K mg E fy) tNil) σ H Q := by
  intro σ H Q h
  have h1 : TXs K mg E (fCons fx (fCons fy fNil)) σ H (fun vs H1 => F.sp K mg (vs ++ []) H1 Q E) := tx_call (dn := 0) (fz := fz) σ H Q h
  have h2 : TX K mg E fx σ H (fun x H1 => TXs K mg E (fCons fy fNil) σ H1 (fun vs H2 => F.sp K mg (x :: vs ++ []) H2 Q E)) := txs_cons σ H _ h1
  show TX K mg E fx σ H (fun x H1 => TX K mg E fy σ H1 (fun y H2 => ([x] : List V).length = 1 ∧ ([y] : List V).length = 1 ∧ F.sp K mg [x, y] H2 Q E))
  refine h2.to fun x H1 z => ?_
  have h3 : TX K mg E fy σ H1 (fun y H2 => TXs K mg E fNil σ H2 (fun vs H3 => F.sp K mg (x :: y :: vs ++ []) H3 Q E)) := txs_cons σ H1 _ z
  exact h3.to fun y H2 z2 => ⟨rfl, rfl, txs_nil σ H2 _ z2⟩
section
variable {k : Ck} {lv : Nat} {CX : CXT}
theorem var_pe {sc : Scope} {fn : Str → Bool} {E : XK} {W : Cx} {i : Nat} {e : Expr} (h : CxOk k sc fn lv CX E W) (q : varC k sc i e = true) : PE W e (tVar i) := by
  obtain ⟨x, e1, q⟩ := optB_ok q
  obtain ⟨p, rfl⟩ := asName_eq e1
  obtain ⟨q, q3⟩ := and_ok q
  obtain ⟨q1, q2⟩ := and_ok q
  obtain ⟨n1, n2, n3⟩ := nm_ok q3
  exact pe_var (by rw [h.hN]; exact of_decide_eq_true q1) (vis_ok h q2) n1 n2
mutual
theorem X.sound : ∀ (x : X) (sc : Scope) (fn : Str → Bool) (E : XK) (W : Cx) (e : Expr), CxOk k sc fn lv CX E W → x.ok k sc fn e = true → Snd W E e (x.ev k.Γ)
  | .var i, sc, fn, E, W, e, h, q => by
    obtain ⟨x, e1, q⟩ := optB_ok q
    obtain ⟨p, rfl⟩ := asName_eq e1
    obtain ⟨q, q3⟩ := and_ok q
    obtain ⟨q1, q2⟩ := and_ok q
    obtain ⟨n1, n2, n3⟩ := nm_ok q3
    exact snd_of (PE.imp (pe_var (by rw [h.hN]; exact of_decide_eq_true q1) (vis_ok h q2) n1 n2) (tx_var i)) rfl
  | .int i, sc, fn, E, W, e, h, q => by
    obtain ⟨c, e1, q⟩ := optB_ok q
    obtain ⟨j, p, rfl⟩ := asConst_eq e1
    have := isIntC_eq q
    subst this
    exact snd_of (PE.imp pe_int (tx_c rfl)) rfl
  | .bl b, sc, fn, E, W, e, h, q => by
    obtain ⟨c, e1, q⟩ := optB_ok q
    obtain ⟨j, p, rfl⟩ := asConst_eq e1
    have := isBlC_eq q
    subst this
    exact snd_of (PE.imp pe_bl (tx_c rfl)) rfl
  | .non, sc, fn, E, W, e, h, q => by
    obtain ⟨c, e1, q⟩ := optB_ok q
    obtain ⟨j, p, rfl⟩ := asConst_eq e1
    have := isNonC_eq q
    subst this
    exact snd_of (PE.imp pe_non (tx_c rfl)) rfl
  | .str x, sc, fn, E, W, e, h, q => by
    obtain ⟨c, e1, q⟩ := optB_ok q
    obtain ⟨j, p, rfl⟩ := asConst_eq e1
    have := isStrC_eq q
    subst this
    exact snd_of (PE.imp pe_str (tx_c rfl)) rfl
  | .cst x d, sc, fn, E, W, e, h, q => by
    obtain ⟨y, e1, q⟩ := optB_ok q
    obtain ⟨p, rfl⟩ := asName_eq e1
    obtain ⟨q, q4⟩ := and_ok q
    obtain ⟨q, q3⟩ := and_ok q
    obtain ⟨q1, q2⟩ := and_ok q
    obtain ⟨n1, n2, n3⟩ := nm_ok q3
    obtain ⟨d', e2, q5⟩ := optB_ok q4
    have := sameC_eq q5
    subst this
    obtain ⟨u, v, w1, w2, w3⟩ := h.cst y d' e2
    exact snd_of (PE.imp (pe_glob (gl_ok h q2) w1 w3 n1) (tx_c w2)) rfl
  | .bin b l x y, sc, fn, E, W, e, h, q => by
    obtain ⟨t, e1, q⟩ := optB_ok q
    obtain ⟨p, rfl⟩ := asBin_eq e1
    obtain ⟨q, q3⟩ := and_ok q
    obtain ⟨q1, q2⟩ := and_ok q
    rw [← opEq_ok q1]
    exact snd_of (PE.imp (pe_op b.opR (X.sound x sc fn E W _ h q2).1 (X.sound y sc fn E W _ h q3).1) (tx_bin (b.opD l))) rfl
  | .neg x, sc, fn, E, W, e, h, q => by
    obtain ⟨t, e1, q⟩ := optB_ok q
    obtain ⟨p, rfl⟩ := asNeg_eq e1
    have hp : PE W (.UnaryOp .USub t p) (TX W.K W.mg E ((X.neg x).ev k.Γ)) := PE.imp (pe_un un_neg (X.sound x sc fn E W t h q).1) (tx_un fun c ρ G H μ d v Q hK r hv hh => by
      cases d with
      | int i =>
        cases hv
        exact ⟨i, rfl, val_use (d := .int _) (v := .int _) hK r rfl hh⟩
      | _ => exact fin_none hh)
    exact ⟨hp, PT.imp (pt_val hp) txb_tx⟩
  | .cmp c x y, sc, fn, E, W, e, h, q => by
    obtain ⟨t, e1, q⟩ := optB_ok q
    obtain ⟨p, rfl⟩ := asCmp_eq e1
    obtain ⟨q, q4⟩ := and_ok q
    obtain ⟨q, q3⟩ := and_ok q
    obtain ⟨q1, q2⟩ := and_ok q
    rw [← cmEq_ok q1]
    have h1 := (X.sound x sc fn E W _ h q3).1
    have h2 := (X.sound y sc fn E W _ h q4).1
    exact snd_cmp (pe_cmpR (op_py h.room.units c) h1 h2 (mark_ok q2)) (pt_cmpR (op_py h.room.units c) h1 h2 (mark_ok q2)) (tx_bin (cmp_ok c))
  | .chain c c' x y z, sc, fn, E, W, e, h, q => by
    obtain ⟨t, e1, q⟩ := optB_ok q
    obtain ⟨p, rfl⟩ := asChain_eq e1
    obtain ⟨q, q6⟩ := and_ok q
    obtain ⟨q, q5⟩ := and_ok q
    obtain ⟨q, q4⟩ := and_ok q
    obtain ⟨q, q3⟩ := and_ok q
    obtain ⟨q1, q2⟩ := and_ok q
    rw [← cmEq_ok q1, ← cmEq_ok q2]
    have h1 := (X.sound x sc fn E W _ h q4).1
    have h2 := (X.sound y sc fn E W _ h q5).1
    have h3 := (X.sound z sc fn E W _ h q6).1
    have hm : lastMarks [c.op, c'.op] [t.2.2.1, t.2.2.2.2] = false := mark_ok q3
    exact snd_cmp (pe_chain (op_py h.room.units c) (op_py h.room.units c') h1 h2 h3 hm) (pt_chain (op_py h.room.units c) (op_py h.room.units c') h1 h2 h3 hm) tx_chain
  | .isN x, sc, fn, E, W, e, h, q => by
    obtain ⟨t, e1, q⟩ := optB_ok q
    obtain ⟨j, q0, p, rfl⟩ := asIsN_eq e1
    have h1 := (X.sound x sc fn E W _ h q).1
    exact ⟨PE.imp (pe_cmp (pc_isN h1)) tx_isN, PT.imp (pt_cmp (pc_isN h1)) fun σ H Q z => tx_isN σ H _ (txb_tx σ H Q z)⟩
  | .notN x, sc, fn, E, W, e, h, q => by
    obtain ⟨t, e1, q⟩ := optB_ok q
    obtain ⟨j, q0, p, rfl⟩ := asNotN_eq e1
    have h1 := (X.sound x sc fn E W _ h q).1
    exact ⟨PE.imp (pe_cmp (pc_notN h1)) tx_notN, PT.imp (pt_cmp (pc_notN h1)) fun σ H Q z => tx_notN σ H _ (txb_tx σ H Q z)⟩
  | .and xs, sc, fn, E, W, e, h, q => by
    obtain ⟨t, e1, q⟩ := optB_ok q
    obtain ⟨p, rfl⟩ := asAnd_eq e1
    obtain ⟨h1, h2⟩ := X.soundAnd xs sc fn E W t p h q
    exact ⟨h1, h2.pt⟩
  | .or xs, sc, fn, E, W, e, h, q => by
    obtain ⟨t, e1, q⟩ := optB_ok q
    obtain ⟨p, rfl⟩ := asOr_eq e1
    obtain ⟨h1, h2⟩ := X.soundOr xs sc fn E W t p h q
    exact ⟨h1, h2.pt⟩
  | .not x, sc, fn, E, W, e, h, q => by
    obtain ⟨t, e1, q⟩ := optB_ok q
    obtain ⟨p, rfl⟩ := asNot_eq e1
    obtain ⟨h1, h2⟩ := X.sound x sc fn E W t h q
    exact ⟨PE.imp (pe_not h1) tx_not, PT.imp (pt_not h2) txb_not⟩
  | .lst l xs, sc, fn, E, W, e, h, q => by
    obtain ⟨t, e1, q⟩ := optB_ok q
    obtain ⟨p, rfl⟩ := asList_eq e1
    exact snd_of (PE.imp (pe_lst (X.sounds xs sc fn E W t h q).1) (tx_lst l)) rfl
  | .tup xs, sc, fn, E, W, e, h, q => by
    obtain ⟨t, e1, q⟩ := optB_ok q
    obtain ⟨n, p, rfl⟩ := asTup_eq e1
    exact snd_of (PE.imp (pe_tup (X.sounds xs sc fn E W t h q).1) tx_tup) rfl
  | .ix x y, sc, fn, E, W, e, h, q => by
    obtain ⟨t, e1, q⟩ := optB_ok q
    obtain ⟨p, rfl⟩ := asSub_eq e1
    obtain ⟨q, q3⟩ := and_ok q
    obtain ⟨q1, q2⟩ := and_ok q
    exact snd_of (PE.imp (pe_ix ix_seq (X.sound x sc fn E W _ h q2).1 (X.sound y sc fn E W _ h q3).1 (plain_ok q1)) (tx_bin ix_ok)) rfl
  | .slice l x lo hi, sc, fn, E, W, e, h, q => by
    obtain ⟨t, e1, q⟩ := optB_ok q
    obtain ⟨q0, p, rfl⟩ := asSlice_eq e1
    obtain ⟨q, q3⟩ := and_ok q
    obtain ⟨q1, q2⟩ := and_ok q
    exact snd_of (PE.imp (pe_slice sl_any (X.sound x sc fn E W _ h q1).1 (X.soundo lo sc fn E W _ h q2) (X.soundo hi sc fn E W _ h q3)) (tx_slice l)) rfl
  | .call f dn fz xs, sc, fn, E, W, e, h, q => by
    obtain ⟨t, e1, q⟩ := optB_ok q
    obtain ⟨q0, p, rfl⟩ := asCall_eq e1
    obtain ⟨q, q4⟩ := and_ok q
    obtain ⟨q, q3⟩ := and_ok q
    obtain ⟨q1, q2⟩ := and_ok q
    obtain ⟨F, e2, q5⟩ := optB_ok q1
    obtain ⟨q5, q7⟩ := and_ok q5
    obtain ⟨q5, q6⟩ := and_ok q5
    obtain ⟨n1, n2, n3⟩ := nm_ok q3
    obtain ⟨fa, fd, w1, w2, w3, w4⟩ := h.fns f F (lookup_mem e2) (List.isEmpty_iff.mp q7)
    obtain ⟨hs, hn⟩ := X.sounds xs sc fn E W _ h q4
    rw [of_decide_eq_true q5] at w1
    have hd : Vals (List.replicate dn .non) (List.replicate dn .none) := vals_non dn
    have hp := pe_call (E := E) (p := q0) (pos := p) w4 h.room (gl_ok h q2) w1 w2 (w3 dn (of_decide_eq_true q6)) hd h.pass hs n1 (star_cons (hn _ List.mem_cons_self)) (star_any fun x hx => hn x (List.mem_cons_of_mem _ hx))
    refine snd_of (PE.imp hp fun σ H Q z => tx_call (dn := dn) (fz := fz) σ H Q ?_) rfl
    have : fnth k.Γ f dn fz = dCall F dn fz := by
      funext ds μ
      unfold fnth
      rw [e2]
    have z' : TX W.K W.mg E (fun env μ => rb (X.evs k.Γ xs env μ) (fnth k.Γ f dn fz)) σ H Q := z
    rw [this] at z'
    exact z'
  | .bi b l xs, sc, fn, E, W, e, h, q => by
    obtain ⟨t, e1, q⟩ := optB_ok q
    obtain ⟨q0, p, rfl⟩ := asCall_eq e1
    obtain ⟨q1, q2⟩ := and_ok q
    obtain ⟨n1, n2, n3⟩ := bi_ok h q1
    obtain ⟨hs, hn⟩ := X.sounds xs sc fn E W _ h q2
    have hc : CallR W b.val (b.r W.K) := b.callR h.calm
    have hv : bootBuiltins t.1 = some b.val := by
      rw [n1]
      exact bi_boot b
    have hq1 : t.1 ≠ "__name__" := by
      rw [n1]
      exact (bi_nm b).1
    have hq2 : (t.1 == ("__debug__" : Str)) = false := by
      rw [n1]
      exact (bi_nm b).2
    have hst := star_cons (env := W.env) (es := t.2.2) (hn _ List.mem_cons_self)
    have hpl := star_any (env := W.env) (pos := p) fun x hx => hn x (List.mem_cons_of_mem _ hx)
    refine snd_of (PE.imp ?_ (tx_cb (b.ok l))) rfl
    cases b <;> first
      | exact pe_callB hc n2 n3 hv hs hq1 hq2 hst hpl
      | exact pe_callTy hc n2 n3 hv hs hq1 hq2 hst hpl
  | .isi t x, sc, fn, E, W, e, h, q => by
    obtain ⟨u, e1, q⟩ := optB_ok q
    obtain ⟨q0, r0, p, rfl⟩ := asIsi_eq e1
    obtain ⟨q, q4⟩ := and_ok q
    obtain ⟨q, q3⟩ := and_ok q
    obtain ⟨q1, q2⟩ := and_ok q
    obtain ⟨n1, n2, n3⟩ := bi_ok h q1
    obtain ⟨m1, m2, m3⟩ := bi_ok h q2
    have h1 := (X.sound x sc fn E W _ h q4).1
    have ht : PE W (.Name u.2.2 r0) (tC (.ty t.nm)) := pe_bltn m2 m3 (by rw [m1]; exact ty_boot t) rfl (by rw [m1]; exact (ty_nm t).1) (by rw [m1]; exact (ty_nm t).2)
    have hv : bootBuiltins u.1 = some (.builtin "isinstance") := by
      rw [n1]
      exact PyProof.Rows.boot_isinstance
    refine snd_of (PE.imp (pe_callB call_isi n2 n3 hv (pa_cons h1 (pa_cons ht pa_nil) (star_cons q3)) (by rw [n1]; decide +kernel) (by rw [n1]; decide +kernel) (star_cons q3)) (tx_isi t)) rfl
  | .mth m x xs, sc, fn, E, W, e, h, q => by
    obtain ⟨t, e1, q⟩ := optB_ok q
    have := asMth_eq e1
    subst this
    obtain ⟨q, q6⟩ := and_ok q
    obtain ⟨q, q5⟩ := and_ok q
    obtain ⟨q, q4⟩ := and_ok q
    obtain ⟨q, q3⟩ := and_ok q
    obtain ⟨q1, q2⟩ := and_ok q
    have h1 := (X.sound x sc fn E W _ h q5).1
    obtain ⟨hs, hn⟩ := X.sounds xs sc fn E W _ h q6
    have hl := of_decide_eq_true q4
    have hsl : Slot "list" t.2.1 m.id := by
      rw [← of_decide_eq_true q1]
      exact m.slot
    obtain ⟨o, a, ap, es, p⟩ := t
    refine snd_of ?_ rfl
    cases xs with
    | nil =>
      cases es with
      | nil => exact PE.imp (pe_bm0 PySem.F.plainAttrs_list hsl m.ty m.mt h1 (base_ok q2) q3) tx_mth0
      | cons e es => cases q6
    | cons x0 xs =>
      cases es with
      | nil => cases q6
      | cons e es => exact PE.imp (pe_bm PySem.F.plainAttrs_list hsl m.ty m.mt h1 hs (base_ok q2) (few_ok hn hl) q3 (star_cons (hn _ List.mem_cons_self)) (star_any fun x hx => hn x (List.mem_cons_of_mem _ hx))) tx_mth
  | .comp l src tg cond elt own, sc, fn, E, W, e, h, q => by
    obtain ⟨t, e1, q⟩ := optB_ok q
    obtain ⟨p, rfl⟩ := asComp_eq e1
    obtain ⟨q, q7⟩ := and_ok q
    obtain ⟨q, q6⟩ := and_ok q
    obtain ⟨q, q5⟩ := and_ok q
    obtain ⟨q, q4⟩ := and_ok q
    obtain ⟨q, q3⟩ := and_ok q
    obtain ⟨q1, q2⟩ := and_ok q
    have hb : BlkOk W.N W.env.scope t.2.2.2.2 (own.map fun i => (k.N.getD i "", i)) := blkOk_by (by rw [h.hN, h.hsc]; exact q1)
    have ho : (own.map fun i => (k.N.getD i "", i)).map (·.2) = own := by
      rw [List.map_map]
      exact List.map_id' own
    have hown : ∀ i ∈ tg.slots, i ∈ own := fun i hi => by
      have := List.all_eq_true.mp q2 i hi
      simpa using this
    have hp := pe_lc (pos := p) (elt := t.1) (tg := t.2.1) (iter := t.2.2.1) (ifs := t.2.2.2.1) (scope := t.2.2.2.2) (g := tg.g W.K) (tt := ttOf W.K W.mg (X.evo k.Γ cond)) (te := TX W.K W.mg E0 (elt.ev k.Γ)) h.calm (by rw [h.hN]; exact h.nd) (Src.sound src sc fn E W _ _ h q4) hb
      (fun s H C cl fp => tg_sound (blk_ok h t.2.2.2.2 s H C cl fp) tg _ q5)
      (fun s H C cl fp => X.soundc cond _ _ _ _ (blk_ok h t.2.2.2.2 s H C cl fp) q6)
      (fun s H C cl fp => (X.sound elt _ _ E0 _ _ (blk_ok h t.2.2.2.2 s H C cl fp) q7).1) (set_ok q3 W.env)
    rw [ho] at hp
    exact snd_of (PE.imp hp (tx_comp hown)) rfl
  | .compK l x tg cond elt own, sc, fn, E, W, e, h, q => by
    obtain ⟨t, e1, q⟩ := optB_ok q
    obtain ⟨p, rfl⟩ := asComp_eq e1
    obtain ⟨q, q7⟩ := and_ok q
    obtain ⟨q, q6⟩ := and_ok q
    obtain ⟨q, q5⟩ := and_ok q
    obtain ⟨q, q4⟩ := and_ok q
    obtain ⟨q, q3⟩ := and_ok q
    obtain ⟨q1, q2⟩ := and_ok q
    have hb : BlkOk W.N W.env.scope t.2.2.2.2 (own.map fun i => (k.N.getD i "", i)) := blkOk_by (by rw [h.hN, h.hsc]; exact q1)
    have ho : (own.map fun i => (k.N.getD i "", i)).map (·.2) = own := by
      rw [List.map_map]
      exact List.map_id' own
    have hown : ∀ i ∈ tg.slots, i ∈ own := fun i hi => by
      have := List.all_eq_true.mp q2 i hi
      simpa using this
    have hp := pe_lc (pos := p) (elt := t.1) (tg := t.2.1) (iter := t.2.2.1) (ifs := t.2.2.2.1) (scope := t.2.2.2.2) (g := tg.g W.K) (tt := ttOf W.K W.mg (X.evo k.Γ cond)) (te := TX W.K W.mg E0 (elt.ev k.Γ)) h.calm (by rw [h.hN]; exact h.nd) (pi_keys (X.sound x sc fn E W _ h q4).1) hb
      (fun s H C cl fp => tg_sound (blk_ok h t.2.2.2.2 s H C cl fp) tg _ q5)
      (fun s H C cl fp => X.soundc cond _ _ _ _ (blk_ok h t.2.2.2.2 s H C cl fp) q6)
      (fun s H C cl fp => (X.sound elt _ _ E0 _ _ (blk_ok h t.2.2.2.2 s H C cl fp) q7).1) (set_ok q3 W.env)
    rw [ho] at hp
    exact snd_of (PE.imp (pe_lock hp) (tx_compK hown)) rfl
  | .dixL x y, sc, fn, E, W, e, h, q => by
    obtain ⟨t, e1, q⟩ := optB_ok q
    obtain ⟨p, rfl⟩ := asSub_eq e1
    obtain ⟨q, q3⟩ := and_ok q
    obtain ⟨q1, q2⟩ := and_ok q
    exact snd_of (PE.imp (pe_dget (by have := h.room.units; omega) (X.sound x sc fn E W _ h q2).1 (X.sound y sc fn E W _ h q3).1 (nosl_ok q1)) (tx_bin dixL_ok)) rfl
  | .mkE cls fns xs, sc, fn, E, W, e, h, q => by
    obtain ⟨t, e1, q⟩ := optB_ok q
    obtain ⟨pn, pc, rfl⟩ := asCall_eq e1
    obtain ⟨q, q5⟩ := and_ok q
    obtain ⟨q, q4⟩ := and_ok q
    obtain ⟨q, q3⟩ := and_ok q
    obtain ⟨q1, q2⟩ := and_ok q
    obtain ⟨⟨D, f, fd, ps, k1, w1, w2, w3, w4, w5, w6, w7, w8, w9⟩, ne, few⟩ := h.xis _ _ (of_decide_eq_true q4)
    obtain ⟨n1, n2, n3⟩ := nm_ok q3
    obtain ⟨hs, hns⟩ := X.sounds xs sc fn E W _ h q5
    have ec : t.1 = cls := of_decide_eq_true q1
    exact snd_of (PE.imp (pe_mkx (p := pn) (pos := pc) w2 w5 w6 w8 (h.room.mono w9) w7 (h.p0 _) (gl_ok h q2) (by rw [ec]; exact w1) hs n1 (star_cons (hns _ List.mem_cons_self)) (star_any fun x hx => hns x (List.mem_cons_of_mem _ hx))) (tx_mkE w1 few w3 w4)) rfl
  | .attrE x f, sc, fn, E, W, e, h, q => by
    obtain ⟨t, e1, q⟩ := optB_ok q
    obtain ⟨p, rfl⟩ := asAttr_eq e1
    obtain ⟨q, q3⟩ := and_ok q
    obtain ⟨q1, q2⟩ := and_ok q
    have ef : t.2 = f := of_decide_eq_true q1
    rw [← ef]
    exact snd_of (PE.imp (pe_atx (pos := p) (X.sound x sc fn E W _ h q3).1 (base_ok (by
      unfold notCallA at q2
      unfold notCall
      exact q2))) tx_attrE) rfl
  | .frz x, sc, fn, E, W, e, h, q => by
    obtain ⟨q1, q2⟩ := and_ok q
    obtain ⟨h1, h2⟩ := X.sound x sc fn E W e h q2
    exact snd_of (PE.imp h1 tx_frz) q1
  | .rev l x, sc, fn, E, W, e, h, q => by
    obtain ⟨t, e1, q⟩ := optB_ok q
    obtain ⟨k1, p1, p2, p3, p, rfl⟩ := asRev_eq e1
    exact snd_of (PE.imp (pe_revL (X.sound x sc fn E W _ h q).1) (tx_rev l)) rfl
  | .isB neg x b, sc, fn, E, W, e, h, q => by
    obtain ⟨t, e1, q⟩ := optB_ok q
    obtain ⟨q, q3⟩ := and_ok q
    obtain ⟨q1, q2⟩ := and_ok q
    have eb : b = t.2.2 := beq_iff_eq.mp q2
    have en : neg = t.2.1 := beq_iff_eq.mp q1
    have h1 := (X.sound x sc fn E W _ h q3).1
    have hb : ∀ j p, PE W (.Constant (.bool t.2.2) j p) (TX W.K W.mg E (fC (.bl b))) := fun j p => by
      rw [eb]
      exact PE.imp pe_bl (tx_c rfl)
    rcases asIsB_eq e1 with ⟨z, j, q0, p, rfl⟩ | ⟨z, j, q0, p, rfl⟩
    · rw [z] at en
      subst en
      exact snd_cmp (pe_cmpR op_isB h1 (hb j q0) (mark_ok rfl)) (pt_cmpR op_isB h1 (hb j q0) (mark_ok rfl)) (tx_bin (isB_ok false))
    · rw [z] at en
      subst en
      exact snd_cmp (pe_cmpR op_notB h1 (hb j q0) (mark_ok rfl)) (pt_cmpR op_notB h1 (hb j q0) (mark_ok rfl)) (tx_bin (isB_ok true))
  | .lrg l xs, sc, fn, E, W, e, h, q => by
    obtain ⟨t, e1, q⟩ := optB_ok q
    obtain ⟨q0, r0, p2, p, rfl⟩ := asLrg_eq e1
    obtain ⟨q, q4⟩ := and_ok q
    obtain ⟨q, q3⟩ := and_ok q
    obtain ⟨q1, q2⟩ := and_ok q
    obtain ⟨n1, n2, n3⟩ := bi_ok h q1
    obtain ⟨m1, m2, m3⟩ := bi_ok h q2
    obtain ⟨hs, hn⟩ := X.sounds xs sc fn E W _ h q4
    obtain ⟨x0, y0, a, as⟩ := t
    subst n1
    subst m1
    cases as with
    | nil =>
      have st : starEach [a] W.env = [(false, eval a W.env)] := star_cons (hn _ List.mem_cons_self)
      cases xs with
      | nil => cases q4
      | cons x xs =>
        cases xs with
        | cons y xs =>
          obtain ⟨_, q⟩ := and_ok q4
          cases q
        | nil =>
          obtain ⟨q, _⟩ := and_ok q4
          obtain ⟨q5, q6⟩ := and_ok q
          exact snd_of (PE.imp (pe_listRg h.calm n2 n3 (prg_1 m2 m3 (X.sound x sc fn E W a h q6).1 st)) (tx_lrg1 l)) rfl
    | cons b as =>
      cases as with
      | cons c as => exact absurd (of_decide_eq_true q3) (by simp)
      | nil =>
        have st2 : starEach [b] W.env = [(false, eval b W.env)] := star_cons (hn _ (by simp))
        have st : starEach [a, b] W.env = (false, eval a W.env) :: starEach [b] W.env := star_cons (hn _ List.mem_cons_self)
        cases xs with
        | nil => cases q4
        | cons x xs =>
          cases xs with
          | nil =>
            obtain ⟨_, q⟩ := and_ok q4
            cases q
          | cons y xs =>
            cases xs with
            | cons w xs =>
              obtain ⟨_, q⟩ := and_ok q4
              obtain ⟨_, q⟩ := and_ok q
              cases q
            | nil =>
              obtain ⟨q, q7⟩ := and_ok q4
              obtain ⟨q5, q6⟩ := and_ok q
              obtain ⟨q7, _⟩ := and_ok q7
              obtain ⟨_, q8⟩ := and_ok q7
              exact snd_of (PE.imp (pe_listRg h.calm n2 n3 (prg_2 m2 m3 (X.sound x sc fn E W a h q6).1 (X.sound y sc fn E W b h q8).1 st st2 (by rw [st2]; rfl))) (tx_lrg2 l)) rfl
  | .lrg3 l xs, sc, fn, E, W, e, h, q => by
    obtain ⟨t, e1, q⟩ := optB_ok q
    obtain ⟨q0, r0, p2, p, rfl⟩ := asRg3_eq e1
    obtain ⟨q, q3⟩ := and_ok q
    obtain ⟨q1, q2⟩ := and_ok q
    obtain ⟨n1, n2, n3⟩ := bi_ok h q1
    obtain ⟨m1, m2, m3⟩ := bi_ok h q2
    obtain ⟨hs, hn⟩ := X.sounds xs sc fn E W _ h q3
    obtain ⟨x0, y0, a, b, c⟩ := t
    subst n1
    subst m1
    exact snd_of (PE.imp (pe_listRg3 h.calm n2 n3 m2 m3 hs (star_cons (hn _ List.mem_cons_self)) (star_any fun x hx => hn x (List.mem_cons_of_mem _ hx))) (tx_lrg3 l)) rfl
  | .maxX xs, sc, fn, E, W, e, h, q => by
    obtain ⟨t, e1, q⟩ := optB_ok q
    obtain ⟨q0, p, rfl⟩ := asCall_eq e1
    obtain ⟨q1, q2⟩ := and_ok q
    obtain ⟨n1, n2, n3⟩ := bi_ok h q1
    obtain ⟨hs, hn⟩ := X.sounds xs sc fn E W _ h q2
    have hst := star_cons (env := W.env) (es := t.2.2) (hn _ List.mem_cons_self)
    have hpl := star_any (env := W.env) (pos := p) fun x hx => hn x (List.mem_cons_of_mem _ hx)
    refine snd_of (PE.imp ?_ (tx_cb maxX_ok)) rfl
    exact pe_callB (cr_maxX h.calm h.room.units) n2 n3 (by rw [n1]; exact bi_boot .max) hs (by rw [n1]; exact (bi_nm .max).1) (by rw [n1]; exact (bi_nm .max).2) hst hpl
  | .callK f fz x kn y, sc, fn, E, W, e, h, q => by
    obtain ⟨t, e1, q⟩ := optB_ok q
    obtain ⟨q0, r0, p, rfl⟩ := asCallK_eq e1
    obtain ⟨q, q7⟩ := and_ok q
    obtain ⟨q, q6⟩ := and_ok q
    obtain ⟨q, q5⟩ := and_ok q
    obtain ⟨q, q4⟩ := and_ok q
    obtain ⟨q, q3⟩ := and_ok q
    obtain ⟨q1, q2⟩ := and_ok q
    obtain ⟨F, e2, q8⟩ := optB_ok q1
    obtain ⟨q8, q12⟩ := and_ok q8
    obtain ⟨q8, q11⟩ := and_ok q8
    obtain ⟨q8, q10⟩ := and_ok q8
    obtain ⟨q8, q9⟩ := and_ok q8
    obtain ⟨n1, n2, n3⟩ := nm_ok q4
    obtain ⟨fa, fd, w1, w2, w3, w4⟩ := h.fks f F (lookup_mem e2) (List.isEmpty_iff.mp q12) (of_decide_eq_true q9) (of_decide_eq_true q10)
    have hx := (X.sound x sc fn E W _ h q6).1
    have hy := (X.sound y sc fn E W _ h q7).1
    rw [of_decide_eq_true q8] at w1
    obtain ⟨x0, ea, kk, eb⟩ := t
    have ek : kk = kn := of_decide_eq_true q2
    subst ek
    rw [of_decide_eq_true q11] at w3
    have st := star_cons (env := W.env) (es := []) q5
    have hp := pe_callN (E := E) (p := q0) (pos := p) (kws := [⟨some kk, eb, r0⟩]) w4 h.room (gl_ok h q3) w1 w2 w3 h.pass (pa_cons hx pa_nil st) (pk_cons hy pk_nil) rfl rfl n1 st (by rw [st]; rfl)
    refine snd_of (PE.imp hp fun σ H Q z => tx_callK (fz := fz) σ H Q ?_) rfl
    have : fnth k.Γ f 0 fz = dCall F 0 fz := by
      funext ds μ
      unfold fnth
      rw [e2]
    have z' : TX W.K W.mg E (fun env μ => rb (fCons (x.ev k.Γ) (fCons (y.ev k.Γ) fNil) env μ) (fnth k.Γ f 0 fz)) σ H Q := z
    rw [this] at z'
    exact z'
  | .attr x f, sc, fn, E, W, e, h, q => by
    obtain ⟨t, e1, q⟩ := optB_ok q
    obtain ⟨p, rfl⟩ := asAttr_eq e1
    obtain ⟨q, q3⟩ := and_ok q
    obtain ⟨q1, q2⟩ := and_ok q
    have := of_decide_eq_true q1
    subst this
    exact snd_of (PE.imp (pe_fld (X.sound x sc fn E W _ h q3).1 (base_ok q2)) tx_attr) rfl
  | .callS f dn xs, sc, fn, E, W, e, h, q => by
    obtain ⟨t, e1, q⟩ := optB_ok q
    obtain ⟨q0, p, rfl⟩ := asCallA_eq e1
    obtain ⟨q, q4⟩ := and_ok q
    obtain ⟨q, q3⟩ := and_ok q
    obtain ⟨q1, q2⟩ := and_ok q
    obtain ⟨F, e2, q5⟩ := optB_ok q1
    obtain ⟨q5, q7⟩ := and_ok q5
    obtain ⟨q5, q6⟩ := and_ok q5
    obtain ⟨n1, n2, n3⟩ := nm_ok q3
    obtain ⟨fa, fd, w1, w2, w3, w4⟩ := h.fns f F (lookup_mem e2) (List.isEmpty_iff.mp q7)
    obtain ⟨hs, hn⟩ := X.sounds xs sc fn E W _ h q4
    rw [of_decide_eq_true q5] at w1
    have hd : Vals (List.replicate dn .non) (List.replicate dn .none) := vals_non dn
    have hq : fnthS k.Γ f dn = dCallS F dn := by
      funext ds μ
      unfold fnthS
      rw [e2]
    obtain ⟨nm, es⟩ := t
    cases xs with
    | nil =>
      cases es with
      | cons _ _ => cases q4
      | nil =>
        have hp := pe_call0 (E := E) (p := q0) (pos := p) w4 h.room (gl_ok h q2) w1 w2 (w3 dn (of_decide_eq_true q6)) hd h.pass n1
        refine snd_of (PE.imp hp fun σ H Q z => ?_) rfl
        have z' : TX W.K W.mg E (fun env μ => rb (fNil env μ) (fnthS k.Γ f dn)) σ H Q := z
        rw [hq] at z'
        exact txs_nil σ H _ (tx_callS (dn := dn) σ H Q z')
    | cons x0 xs0 =>
      cases es with
      | nil => cases q4
      | cons ea es =>
        have hp := pe_call (E := E) (p := q0) (pos := p) w4 h.room (gl_ok h q2) w1 w2 (w3 dn (of_decide_eq_true q6)) hd h.pass hs n1 (star_cons (hn _ List.mem_cons_self)) (star_any fun x hx => hn x (List.mem_cons_of_mem _ hx))
        refine snd_of (PE.imp hp fun σ H Q z => tx_callS (dn := dn) σ H Q ?_) rfl
        have z' : TX W.K W.mg E (fun env μ => rb (X.evs k.Γ (x0 :: xs0) env μ) (fnthS k.Γ f dn)) σ H Q := z
        rw [hq] at z'
        exact z'
  | .callM m alts dn x xs, sc, fn, E, W, e, h, q => by
    obtain ⟨t, e1, q⟩ := optB_ok q
    have := asMth_eq e1
    subst this
    obtain ⟨q, q7⟩ := and_ok q
    obtain ⟨q, q6⟩ := and_ok q
    obtain ⟨q, q5⟩ := and_ok q
    obtain ⟨q, q4⟩ := and_ok q
    obtain ⟨q, q3⟩ := and_ok q
    obtain ⟨q1, q2⟩ := and_ok q
    have h1 := (X.sound x sc fn E W _ h q5).1
    obtain ⟨hs, hn⟩ := X.sounds xs sc fn E W _ h q6
    have hl := of_decide_eq_true q4
    obtain ⟨o, a, ap, es, p⟩ := t
    have hm : m = a := of_decide_eq_true q1
    subst hm
    obtain ⟨q8, q9⟩ := and_ok q7
    have hne : m ≠ ("__init__" : Str) := fun z => by
      subst z
      exact absurd q8 (by decide +kernel)
    have hall : ∀ cls i, alts.lookup cls = some i → ∃ F, k.Γ.lookup i = some F ∧ F.name = m ∧ dn ≤ F.dn ∧ MtAt W.prog W.w W.K W.mg W.base CX lv F cls := fun cls i hi => by
      have z := List.all_eq_true.mp q9 _ (lookup_mem hi)
      obtain ⟨F, e2, z⟩ := optB_ok z
      obtain ⟨z, z3⟩ := and_ok z
      obtain ⟨z1, z2⟩ := and_ok z
      have z1' := of_decide_eq_true z1
      exact ⟨F, e2, z1', of_decide_eq_true z2, h.mts i F (lookup_mem e2) (by rw [z1']; exact hne) cls (of_decide_eq_true z3)⟩
    refine snd_of ?_ rfl
    have ht := ht_of (env := W.env) (o := o) (name := m) (apos := ap) (pos := p) (args := es) (base_ok q2) (few_ok hn hl) q3
    cases es with
    | nil =>
      cases xs with
      | cons _ _ => cases q6
      | nil =>
        refine PE.imp (pe_methP0 (CX := CX) h1 h.pass ht) fun σ H Q z => ?_
        have z' := tx_callM (lv := lv) (m := m) h.room hall σ H Q z
        obtain ⟨c, env, ρ, G, μ, hK, hmg, re, eo, w⟩ := z'
        refine ⟨c, env, ρ, G, μ, hK, hmg, re, eo, w.imp ?_⟩
        rintro d ρ' G' μ' H' _ _ _ w v hv
        obtain ⟨a, C, dx, fs, kk, f, fd, ps, sp, dvs, ds, y1, y2, y3, y4, y5, y6, y7, y8, y9, y10⟩ := w v hv
        exact ⟨a, C, dx, fs, kk, f, fd, ps, sp, dvs, ds, y1, y2, y3, y4, y5, y6, y7, y8, y9, txs_nil σ H' _ y10⟩
    | cons ea es =>
      cases xs with
      | nil => cases q6
      | cons x0 xs0 => exact PE.imp (pe_methP (CX := CX) h1 h.pass hs (star_cons (hn _ List.mem_cons_self)) (star_any fun x hx => hn x (List.mem_cons_of_mem _ hx)) ht) (tx_callM (lv := lv) (m := m) h.room hall)
  | .make cls f dn xs, sc, fn, E, W, e, h, q => by
    obtain ⟨t, e1, q⟩ := optB_ok q
    obtain ⟨q0, p, rfl⟩ := asCallA_eq e1
    obtain ⟨q, q4⟩ := and_ok q
    obtain ⟨q, q3⟩ := and_ok q
    obtain ⟨q, q2⟩ := and_ok q
    obtain ⟨q0', q1⟩ := and_ok q
    obtain ⟨F, e2, z0⟩ := optB_ok q1
    obtain ⟨z1, q7⟩ := and_ok z0
    obtain ⟨q5, q6⟩ := and_ok z1
    obtain ⟨n1, n2, n3⟩ := nm_ok q3
    have hc := of_decide_eq_true q0'
    obtain ⟨nm, es⟩ := t
    have hc : nm = cls := hc
    subst hc
    obtain ⟨C, fa, fd, l, w1, w2, w3, w4, w5, w6, _⟩ := h.mks f F (lookup_mem e2) (of_decide_eq_true q5) _ (of_decide_eq_true q7)
    obtain ⟨hs, hn⟩ := X.sounds xs sc fn E W _ h q4
    have hd : Vals (List.replicate dn .non) (List.replicate dn .none) := vals_non dn
    have hroom : Room (l + 1) W.A := h.room.mono w6
    cases xs with
    | nil =>
      cases es with
      | cons _ _ => cases q4
      | nil =>
        have hp := pe_make0 (E := E) (p := q0) (pos := p) w3 w5 hroom (gl_ok h q2) w1 (w4 dn (of_decide_eq_true q6)) hd h.pass n1
        exact snd_of (PE.imp hp fun σ H Q z => txs_nil σ H _ (tx_make (fs := fNil) e2 w1 w2 σ H Q z)) rfl
    | cons x0 xs0 =>
      cases es with
      | nil => cases q4
      | cons ea es =>
        have hp := pe_make (E := E) (p := q0) (pos := p) w3 w5 hroom (gl_ok h q2) w1 (w4 dn (of_decide_eq_true q6)) hd h.pass hs n1 (star_cons (hn _ List.mem_cons_self)) (star_any fun x hx => hn x (List.mem_cons_of_mem _ hx))
        exact snd_of (PE.imp hp (tx_make e2 w1 w2)) rfl
  | .disp ks xs, sc, fn, E, W, e, h, q => by
    obtain ⟨t, e1, q⟩ := optB_ok q
    obtain ⟨p, rfl⟩ := asDict_eq e1
    obtain ⟨q3, q2⟩ := and_ok q
    obtain ⟨q1, q4⟩ := and_ok q3
    obtain ⟨trs, hp, l1, l2, l3, ht⟩ := X.soundd xs ks sc fn E W t.1 t.2 p h q2
    have hne : t.1 ≠ [] := fun z => by
      rw [z] at q1
      cases q1
    refine snd_of (PE.imp (pe_disp hp l3 l1 hne (of_decide_eq_true q4)) fun σ H Q z p hp => ?_) rfl
    refine ht σ (upd H p (.dK [])) _ ((tx_disp σ H Q z p hp).to ?_)
    rintro vs H2 ⟨w1, w2, w3, w4⟩
    refine ⟨w1, (ks.map Sum.inr).zip vs, ?_, by rw [List.length_zip, List.length_map]; omega, w4⟩
    rw [List.zip_map_left, List.map_map]
    rfl
  | .dkeysT lv xs, sc, fn, E, W, e, h, q => by
    obtain ⟨t, e1, q⟩ := optB_ok q
    obtain ⟨q0, p, rfl⟩ := asCall_eq e1
    obtain ⟨q1, q2⟩ := and_ok q
    obtain ⟨n1, n2, n3⟩ := bi_ok h q1
    obtain ⟨hs, hn⟩ := X.sounds xs sc fn E W _ h q2
    have hst := star_cons (env := W.env) (es := t.2.2) (hn _ List.mem_cons_self)
    have hpl := star_any (env := W.env) (pos := p) fun x hx => hn x (List.mem_cons_of_mem _ hx)
    refine snd_of (PE.imp ?_ (tx_cb (keysT_ok lv))) rfl
    exact pe_callTy (call_list_dT h.calm) n2 n3 (by rw [n1]; exact bi_boot .list) hs (by rw [n1]; exact (bi_nm .list).1) (by rw [n1]; exact (bi_nm .list).2) hst hpl
  | .makeK cls f kn y, sc, fn, E, W, e, h, q => by
    obtain ⟨t, e1, q⟩ := optB_ok q
    obtain ⟨q0, r0, p, rfl⟩ := asMakeK_eq e1
    obtain ⟨q, q6⟩ := and_ok q
    obtain ⟨q, q5⟩ := and_ok q
    obtain ⟨q, q4⟩ := and_ok q
    obtain ⟨q, q3⟩ := and_ok q
    obtain ⟨q0', q1⟩ := and_ok q
    obtain ⟨F, e2, z0⟩ := optB_ok q1
    obtain ⟨y4, z5⟩ := and_ok z0
    obtain ⟨y3, z4⟩ := and_ok y4
    obtain ⟨y2, z3⟩ := and_ok y3
    obtain ⟨z1, z2⟩ := and_ok y2
    obtain ⟨n1, n2, n3⟩ := nm_ok q5
    obtain ⟨x0, kk, eb⟩ := t
    have hc : x0 = cls := of_decide_eq_true q0'
    subst hc
    have ek : kk = kn := of_decide_eq_true q3
    subst ek
    obtain ⟨C, fa, fd, l, w1, w2, w3, w4, w5, w6, w7⟩ := h.mks f F (lookup_mem e2) (of_decide_eq_true z1) _ (of_decide_eq_true z5)
    have hkb := w7 (of_decide_eq_true z2) (of_decide_eq_true z3)
    rw [of_decide_eq_true z4] at hkb
    have hy := (X.sound y sc fn E W _ h q6).1
    have hroom : Room (l + 1) W.A := h.room.mono w6
    have hp := pe_makeK0 (E := E) (p := q0) (pos := p) (kws := [⟨some kk, eb, r0⟩]) w3 w5 hroom (gl_ok h q4) w1 hkb h.pass (pk_cons hy pk_nil) rfl rfl n1 rfl
    exact snd_of (PE.imp hp (tx_makeK e2 w1 w2)) rfl
  | .make0 cls, sc, fn, E, W, e, h, q => by
    obtain ⟨x, e1, q⟩ := optB_ok q
    obtain ⟨q0, p, rfl⟩ := asCall0_eq e1
    obtain ⟨q, q4⟩ := and_ok q
    obtain ⟨q, q3⟩ := and_ok q
    obtain ⟨q1, q2⟩ := and_ok q
    obtain ⟨n1, n2, n3⟩ := nm_ok q3
    have := of_decide_eq_true q1
    subst this
    obtain ⟨C, w1, w2, w3⟩ := h.ob.c0 _ (of_decide_eq_true q4)
    exact snd_of (PE.imp (pe_new0 w3 (gl_ok h q2) w1 n1) (tx_make0 w1 w2)) rfl
  | .isC ob x cls, sc, fn, E, W, e, h, q => by
    obtain ⟨u, e1, q⟩ := optB_ok q
    obtain ⟨q0, r0, p, rfl⟩ := asIsi_eq e1
    obtain ⟨q, q9⟩ := and_ok q
    obtain ⟨q, q8⟩ := and_ok q
    obtain ⟨q, q7⟩ := and_ok q
    obtain ⟨q, q6⟩ := and_ok q
    obtain ⟨q, q5⟩ := and_ok q
    obtain ⟨q, q4⟩ := and_ok q
    obtain ⟨q, q3⟩ := and_ok q
    obtain ⟨q1, q2⟩ := and_ok q
    obtain ⟨n1, n2, n3⟩ := bi_ok h q1
    obtain ⟨m1, m2, m3⟩ := nm_ok q4
    have hc := of_decide_eq_true q2
    have hic := of_decide_eq_true q5
    have h1 := (X.sound x sc fn E W _ h q9).1
    obtain ⟨C, w1, _⟩ := (h.ob.ic cls hic).ex
    have ht : PE W (.Name u.2.2 r0) (tC (.ref C)) := pe_glob (gl_ok h q3) (by rw [hc]; exact w1) rfl m1
    have hv : bootBuiltins u.1 = some (.builtin "isinstance") := by
      rw [n1]
      exact PyProof.Rows.boot_isinstance
    refine snd_of (PE.imp (pe_callB call_isi n2 n3 hv (pa_cons h1 (pa_cons ht pa_nil) (star_cons q8)) (by rw [n1]; decide +kernel) (by rw [n1]; decide +kernel) (star_cons q8)) fun σ H Q z => tx_isC (ob := k.ob) h.ob w1 σ H Q ?_) rfl
    have : dIsC ob cls = dIsC k.ob cls := by
      funext d μ
      unfold dIsC
      rw [of_decide_eq_true q6, of_decide_eq_true q7]
    have z' : TX W.K W.mg E (fun env μ => rb (x.ev k.Γ env μ) (dIsC ob cls)) σ H Q := z
    rw [this] at z'
    exact z'
  | .sm0 m x, sc, fn, E, W, e, h, q => by
    obtain ⟨t, e1, q⟩ := optB_ok q
    have := asMth_eq e1
    subst this
    obtain ⟨q, q5⟩ := and_ok q
    obtain ⟨q, q4⟩ := and_ok q
    obtain ⟨q, q3⟩ := and_ok q
    obtain ⟨q1, q2⟩ := and_ok q
    have h1 := (X.sound x sc fn E W _ h q4).1
    obtain ⟨o, a, ap, es, p⟩ := t
    have q5' : es = [] := List.isEmpty_iff.mp q5
    subst q5'
    have hsl : Slot "str" a m.id := by
      have z : m.nm = a := of_decide_eq_true q1
      rw [← z]
      exact m.slot
    exact snd_of (PE.imp (pe_m0 hsl m.ty m.mt h1 (base_ok q2) q3) tx_sm0) rfl
  | .sm1 l m x y, sc, fn, E, W, e, h, q => by
    obtain ⟨t, e1, q⟩ := optB_ok q
    have := asMth_eq e1
    subst this
    obtain ⟨q, q5⟩ := and_ok q
    obtain ⟨q, q4⟩ := and_ok q
    obtain ⟨q, q3⟩ := and_ok q
    obtain ⟨q1, q2⟩ := and_ok q
    have h1 := (X.sound x sc fn E W _ h q4).1
    obtain ⟨o, a, ap, es, p⟩ := t
    obtain ⟨ea, e2, q6⟩ := optB_ok q5
    have e2' := oneE_eq e2
    dsimp only at e2'
    subst e2'
    obtain ⟨q7, q8⟩ := and_ok q6
    have hsl : Slot "str" a m.id := by
      have z : m.nm = a := of_decide_eq_true q1
      rw [← z]
      exact m.slot
    have h2 := (X.sound y sc fn E W _ h q8).1
    exact snd_of (PE.imp (pe_m1 hsl m.ty m.mt h1 h2 (star_cons q7) (base_ok q2) q3) tx_sm1) rfl
  | .inS neg x y, sc, fn, E, W, e, h, q => by
    obtain ⟨t, e1, q⟩ := optB_ok q
    obtain ⟨p, rfl⟩ := asCmp_eq e1
    obtain ⟨q, q4⟩ := and_ok q
    obtain ⟨q, q3⟩ := and_ok q
    obtain ⟨q1, q2⟩ := and_ok q
    rw [← cmEq_ok q1]
    have h1 := (X.sound x sc fn E W _ h q3).1
    have h2 := (X.sound y sc fn E W _ h q4).1
    exact snd_cmp (pe_cmpR (op_inT neg) h1 h2 (mark_ok q2)) (pt_cmpR (op_inT neg) h1 h2 (mark_ok q2)) (tx_bin (inT_ok neg))
  | .orV x s, sc, fn, E, W, e, h, q => by
    obtain ⟨es, e1, z0⟩ := optB_ok q
    obtain ⟨p, rfl⟩ := asOr_eq e1
    obtain ⟨t, e2, z1⟩ := optB_ok z0
    have := twoE_eq e2
    subst this
    obtain ⟨q2, q1⟩ := and_ok z1
    obtain ⟨cc, e3, q2⟩ := optB_ok q2
    obtain ⟨ea, eb⟩ := t
    obtain ⟨j, pp, e4⟩ := asConst_eq e3
    dsimp only at e4
    subst e4
    have := isStrC_eq q2
    subst this
    obtain ⟨h1, h1'⟩ := X.sound x sc fn E W _ h q1
    have hs : PE W (.Constant (.str s) j pp) (tC (.str s)) := pe_str
    exact ⟨PE.imp (pe_orT h1 (pe_one hs)) (tx_orV fun σ H Q z => z), (PW.imp (pw_or h1' (pw_or1 (pt_val hs))) txb_orV).pt⟩
  | .dix x y, sc, fn, E, W, e, h, q => by
    obtain ⟨t, e1, q⟩ := optB_ok q
    obtain ⟨p, rfl⟩ := asSub_eq e1
    obtain ⟨q, q3⟩ := and_ok q
    obtain ⟨q1, q2⟩ := and_ok q
    exact snd_of (PE.imp (pe_dget (by have := h.room.units; omega) (X.sound x sc fn E W _ h q2).1 (X.sound y sc fn E W _ h q3).1 (nosl_ok q1)) (tx_bin dix_ok)) rfl
  | .dget x ys, sc, fn, E, W, e, h, q => by
    obtain ⟨t, e1, q⟩ := optB_ok q
    have := asGet_eq e1
    subst this
    obtain ⟨q, q6⟩ := and_ok q
    obtain ⟨q, q5⟩ := and_ok q
    obtain ⟨q, q4⟩ := and_ok q
    obtain ⟨q, q3⟩ := and_ok q
    obtain ⟨q1, q2⟩ := and_ok q
    have h1 := (X.sound x sc fn E W _ h q5).1
    obtain ⟨hs, hn⟩ := X.sounds ys sc fn E W _ h q6
    have hl := of_decide_eq_true q4
    obtain ⟨o, a, ap, ea, es, p⟩ := t
    have q1 : a = ("get" : Str) := of_decide_eq_true q1
    subst q1
    have hst : starEach (ea :: es) W.env = (false, eval ea W.env) :: starEach es W.env := star_cons (hn ea List.mem_cons_self)
    have hpl := star_any (env := W.env) (pos := p) fun x hx => hn x (List.mem_cons_of_mem _ hx)
    exact snd_of (PE.imp (pe_bm F.plainAttrs_dict F.slot_dict_get F.type_dict_get (mt_get (by have := h.room.units; omega)) h1 hs (base_ok q2) (few_ok hn (by show es.length + 1 < 30; have : es.length < 20 := hl; omega)) q3 hst hpl) tx_get) rfl
  | .dpop x ys, sc, fn, E, W, e, h, q => by
    obtain ⟨t, e1, q⟩ := optB_ok q
    have := asGet_eq e1
    subst this
    obtain ⟨q, q6⟩ := and_ok q
    obtain ⟨q, q5⟩ := and_ok q
    obtain ⟨q, q4⟩ := and_ok q
    obtain ⟨q, q3⟩ := and_ok q
    obtain ⟨q1, q2⟩ := and_ok q
    have h1 := (X.sound x sc fn E W _ h q5).1
    obtain ⟨hs, hn⟩ := X.sounds ys sc fn E W _ h q6
    have hl := of_decide_eq_true q4
    obtain ⟨o, a, ap, ea, es, p⟩ := t
    have q1 : a = ("pop" : Str) := of_decide_eq_true q1
    subst q1
    have hst : starEach (ea :: es) W.env = (false, eval ea W.env) :: starEach es W.env := star_cons (hn ea List.mem_cons_self)
    have hpl := star_any (env := W.env) (pos := p) fun x hx => hn x (List.mem_cons_of_mem _ hx)
    exact snd_of (PE.imp (pe_bm F.plainAttrs_dict F.slot_dict_pop F.type_dict_pop (mt_pop1 (by have := h.room.units; omega)) h1 hs (base_ok q2) (few_ok hn (by show es.length + 1 < 30; have : es.length < 20 := hl; omega)) q3 hst hpl) tx_pop) rfl
  | .remS x ys, sc, fn, E, W, e, h, q => by
    obtain ⟨t, e1, q⟩ := optB_ok q
    have := asGet_eq e1
    subst this
    obtain ⟨q, q6⟩ := and_ok q
    obtain ⟨q, q5⟩ := and_ok q
    obtain ⟨q, q4⟩ := and_ok q
    obtain ⟨q, q3⟩ := and_ok q
    obtain ⟨q1, q2⟩ := and_ok q
    have h1 := (X.sound x sc fn E W _ h q5).1
    obtain ⟨hs, hn⟩ := X.sounds ys sc fn E W _ h q6
    have hl := of_decide_eq_true q4
    obtain ⟨o, a, ap, ea, es, p⟩ := t
    have q1 : a = ("remove" : Str) := of_decide_eq_true q1
    subst q1
    have hst : starEach (ea :: es) W.env = (false, eval ea W.env) :: starEach es W.env := star_cons (hn ea List.mem_cons_self)
    have hpl := star_any (env := W.env) (pos := p) fun x hx => hn x (List.mem_cons_of_mem _ hx)
    exact snd_of (PE.imp (pe_bm F.plainAttrs_list F.slot_list_remove F.type_list_remove mt_removeS h1 hs (base_ok q2) (few_ok hn (by show es.length + 1 < 30; have : es.length < 20 := hl; omega)) q3 hst hpl) tx_remS) rfl
  | .dsetd x y z, sc, fn, E, W, e, h, q => by
    obtain ⟨t, e1, q⟩ := optB_ok q
    have := asSetd_eq e1
    subst this
    obtain ⟨q, q8⟩ := and_ok q
    obtain ⟨q, q7⟩ := and_ok q
    obtain ⟨q, q6⟩ := and_ok q
    obtain ⟨q, q5⟩ := and_ok q
    obtain ⟨q, q4⟩ := and_ok q
    obtain ⟨q, q3⟩ := and_ok q
    obtain ⟨q1, q2⟩ := and_ok q
    have h1 := (X.sound x sc fn E W _ h q4).1
    have h2 := (X.sound y sc fn E W _ h q5).1
    have h3 := (X.sound z sc fn E W _ h q6).1
    obtain ⟨o, a, ap, ea, ef, p⟩ := t
    have q1 : a = ("setdefault" : Str) := of_decide_eq_true q1
    subst q1
    have hns : allNS [ea, ef] := fun x hx => by
      rcases List.mem_cons.mp hx with rfl | hx
      · exact q7
      · rw [List.mem_singleton.mp hx]
        exact q8
    exact snd_of (PE.imp (pe_dsetd h1 h2 h3 ⟨base_ok q2, few_ok hns (by show 2 < 30; omega), q3, by rw [star_cons q7, star_cons q8]; rfl⟩) tx_setd) rfl
  | .dvals l i kx own, sc, fn, E, W, e, h, q => by
    obtain ⟨t, e1, q⟩ := optB_ok q
    obtain ⟨p, rfl⟩ := asComp_eq e1
    obtain ⟨q, q8⟩ := and_ok q
    obtain ⟨q, q7⟩ := and_ok q
    obtain ⟨q, q6⟩ := and_ok q
    obtain ⟨q, q5⟩ := and_ok q
    obtain ⟨q, q4⟩ := and_ok q
    obtain ⟨q, q3⟩ := and_ok q
    obtain ⟨q1, q2⟩ := and_ok q
    obtain ⟨el, tg, it, ifs, scope⟩ := t
    obtain ⟨u, e2, q⟩ := optB_ok q8
    obtain ⟨p2, e3⟩ := asSub_eq e2
    obtain ⟨q, qc⟩ := and_ok q
    obtain ⟨qa, qb⟩ := and_ok q
    cases ifs with
    | cons _ _ => cases q4
    | nil =>
      have hb : BlkOk W.N W.env.scope scope (own.map fun i => (k.N.getD i "", i)) := blkOk_by (by rw [h.hN, h.hsc]; exact q1)
      have ho : (own.map fun i => (k.N.getD i "", i)).map (·.2) = own := by
        rw [List.map_map]
        exact List.map_id' own
      have hk : kx ∈ own := by simpa using q2
      have hi : i ∉ own := by simpa using q3
      have hp := pe_lc (pos := p) (elt := el) (tg := tg) (iter := it) (ifs := []) (scope := scope) (g := gName kx) (tt := tYes) (te := tDGet (tVar i) (tVar kx)) h.calm (by rw [h.hN]; exact h.nd) (pi_keys (var_pe h q6)) hb
        (fun s H C cl fp => tg_sound (blk_ok h scope s H C cl fp) (Tg.nm kx) _ q7)
        (fun s H C cl fp => pts_nil)
        (fun s H C cl fp => by
          have hh := blk_ok h scope s H C cl fp
          have e3 : el = .Subscript u.1 u.2 p2 := e3
          rw [e3]
          exact pe_dget (by have := hh.room.units; omega) (var_pe hh qb) (var_pe hh qc) (nosl_ok qa)) (set_ok q5 W.env)
      rw [ho] at hp
      exact snd_of (PE.imp (pe_lock hp) (tx_vals hi hk)) rfl
  | .din neg x y, sc, fn, E, W, e, h, q => by
    obtain ⟨t, e1, q⟩ := optB_ok q
    obtain ⟨p, rfl⟩ := asCmp_eq e1
    obtain ⟨q, q4⟩ := and_ok q
    obtain ⟨q, q3⟩ := and_ok q
    obtain ⟨q1, q2⟩ := and_ok q
    have h1 := (X.sound x sc fn E W _ h q3).1
    have h2 := (X.sound y sc fn E W _ h q4).1
    have hu : W.A.units + 1 < cLine := by have := h.room.units; omega
    rw [← cmEq_ok q1]
    cases neg with
    | false => exact snd_cmp (pe_cmp (pc_dinN hu h1 h2) (mark_ok q2)) (pt_cmp (pc_dinN hu h1 h2) (mark_ok q2)) (tx_bin din_ok)
    | true => exact snd_cmp (pe_cmp (pc_dnotinN hu h1 h2) (mark_ok q2)) (pt_cmp (pc_dnotinN hu h1 h2) (mark_ok q2)) (tx_bin dnin_ok)
  | .dnew t, sc, fn, E, W, e, h, q => by
    obtain ⟨p, rfl⟩ := isDict0_eq q
    cases t with
    | false => exact snd_of (PE.imp pe_dnewK tx_dnewK) rfl
    | true => exact snd_of (PE.imp pe_dnewT tx_dnewT) rfl
  | .dkeys lv xs, sc, fn, E, W, e, h, q => by
    obtain ⟨t, e1, q⟩ := optB_ok q
    obtain ⟨q0, p, rfl⟩ := asCall_eq e1
    obtain ⟨q1, q2⟩ := and_ok q
    obtain ⟨n1, n2, n3⟩ := bi_ok h q1
    obtain ⟨hs, hn⟩ := X.sounds xs sc fn E W _ h q2
    have hst := star_cons (env := W.env) (es := t.2.2) (hn _ List.mem_cons_self)
    have hpl := star_any (env := W.env) (pos := p) fun x hx => hn x (List.mem_cons_of_mem _ hx)
    refine snd_of (PE.imp ?_ (tx_cb (keys_ok lv))) rfl
    exact pe_callTy (call_listD h.calm) n2 n3 (by rw [n1]; exact bi_boot .list) hs (by rw [n1]; exact (bi_nm .list).1) (by rw [n1]; exact (bi_nm .list).2) hst hpl
  | .dlen xs, sc, fn, E, W, e, h, q => by
    obtain ⟨t, e1, q⟩ := optB_ok q
    obtain ⟨q0, p, rfl⟩ := asCall_eq e1
    obtain ⟨q1, q2⟩ := and_ok q
    obtain ⟨n1, n2, n3⟩ := bi_ok h q1
    obtain ⟨hs, hn⟩ := X.sounds xs sc fn E W _ h q2
    have hst := star_cons (env := W.env) (es := t.2.2) (hn _ List.mem_cons_self)
    have hpl := star_any (env := W.env) (pos := p) fun x hx => hn x (List.mem_cons_of_mem _ hx)
    refine snd_of (PE.imp ?_ (tx_cb dlen_ok)) rfl
    exact pe_callB call_lenD n2 n3 (by rw [n1]; exact bi_boot .len) hs (by rw [n1]; exact (bi_nm .len).1) (by rw [n1]; exact (bi_nm .len).2) hst hpl
  | .lset x, sc, fn, E, W, e, h, q => by
    obtain ⟨t, e1, q⟩ := optB_ok q
    obtain ⟨q0, r0, p2, p, rfl⟩ := asLSet_eq e1
    obtain ⟨q, q4⟩ := and_ok q
    obtain ⟨q, q3⟩ := and_ok q
    obtain ⟨q1, q2⟩ := and_ok q
    obtain ⟨n1, n2, n3⟩ := bi_ok h q1
    obtain ⟨m1, m2, m3⟩ := bi_ok h q2
    obtain ⟨x0, y0, a⟩ := t
    subst n1
    subst m1
    exact snd_of (PE.imp (pe_lset h.calm n2 n3 m2 m3 (X.sound x sc fn E W a h q4).1 (star_cons q3)) tx_lset) rfl
  | .srtP l xs, sc, fn, E, W, e, h, q => by
    obtain ⟨t, e1, q⟩ := optB_ok q
    obtain ⟨q0, p, rfl⟩ := asCall_eq e1
    obtain ⟨q1, q2⟩ := and_ok q
    obtain ⟨n1, n2, n3⟩ := bi_ok h q1
    obtain ⟨hs, hn⟩ := X.sounds xs sc fn E W _ h q2
    have hc : CallR W (BI.val .sorted) (rSortedPO W.K) := cr_sortedPO
    have hv : bootBuiltins t.1 = some (BI.val .sorted) := by
      rw [n1]
      exact bi_boot .sorted
    have hq1 : t.1 ≠ "__name__" := by
      rw [n1]
      exact (bi_nm .sorted).1
    have hq2 : (t.1 == ("__debug__" : Str)) = false := by
      rw [n1]
      exact (bi_nm .sorted).2
    have hst := star_cons (env := W.env) (es := t.2.2) (hn _ List.mem_cons_self)
    have hpl := star_any (env := W.env) (pos := p) fun x hx => hn x (List.mem_cons_of_mem _ hx)
    exact snd_of (PE.imp (pe_callB hc n2 n3 hv hs hq1 hq2 hst hpl) (tx_cb (sortP_ok l))) rfl
theorem X.sounds : ∀ (xs : List X) (sc : Scope) (fn : Str → Bool) (E : XK) (W : Cx) (es : List Expr), CxOk k sc fn lv CX E W → X.oks k sc fn xs es = true → PA W es (TXs W.K W.mg E (X.evs k.Γ xs)) ∧ allNS es
  | [], sc, fn, E, W, [], h, q => ⟨PA.imp pa_nil txs_nil, allNS_nil⟩
  | x :: xs, sc, fn, E, W, e :: es, h, q => by
    obtain ⟨q, q3⟩ := and_ok q
    obtain ⟨q1, q2⟩ := and_ok q
    obtain ⟨hs, hn⟩ := X.sounds xs sc fn E W es h q3
    exact ⟨PA.imp (pa_cons (X.sound x sc fn E W e h q2).1 hs (star_cons q1)) txs_cons, allNS_cons q1 hn⟩
  | [], _, _, _, _, _ :: _, _, q => by cases q
  | _ :: _, _, _, _, _, [], _, q => by cases q
theorem X.soundd : ∀ (xs : List X) (ks : List Str) (sc : Scope) (fn : Str → Bool) (E : XK) (W : Cx) (keys : List (Option Expr)) (values : List Expr) (pos : Pos), CxOk k sc fn lv CX E W → X.okd k sc fn ks xs keys values = true →
    ∃ trs, PPs W pos keys values trs ∧ keys.length = values.length ∧ keys.length = ks.length ∧ keys.all (·.isSome) = true ∧ ∀ σ H (Q : List (V × V) → Hp → Prop), TXs W.K W.mg E (X.evs k.Γ xs) σ H (fun vs H2 => Q ((ks.zip vs).map fun q => (V.str q.1, q.2)) H2) → tPairs trs σ H Q
  | [], [], sc, fn, E, W, [], [], pos, h, q => ⟨[], pps_nil, rfl, rfl, rfl, fun σ H Q z => txs_nil σ H _ z⟩
  | x :: xs, s :: ks, sc, fn, E, W, some a :: keys, v :: values, pos, h, q => by
    obtain ⟨q, q3⟩ := and_ok q
    obtain ⟨q1, q2⟩ := and_ok q
    obtain ⟨c, e1, q4⟩ := optB_ok q1
    obtain ⟨j, p, rfl⟩ := asConst_eq e1
    have := isStrC_eq q4
    subst this
    obtain ⟨trs, hp, l1, l2, l3, ht⟩ := X.soundd xs ks sc fn E W keys values pos h q3
    refine ⟨_, pps_cons pe_str (X.sound x sc fn E W v h q2).1 hp, by simp [l1], by simp [l2], by simpa using l3, fun σ H Q z => ?_⟩
    have z1 := txs_cons σ H _ z
    show TX W.K W.mg E (x.ev k.Γ) σ H fun y H2 => tPairs trs σ H2 fun ps H3 => Q ((V.str s, y) :: ps) H3
    exact TX.to z1 fun y H1 z2 => ht σ H1 _ z2
  | [], [], _, _, _, _, [], _ :: _, _, _, q => by cases q
  | [], [], _, _, _, _, _ :: _, _, _, _, q => by cases q
  | [], _ :: _, _, _, _, _, _, _, _, _, q => by cases q
  | _ :: _, [], _, _, _, _, _, _, _, _, q => by cases q
  | _ :: _, _ :: _, _, _, _, _, [], _, _, _, q => by cases q
  | _ :: _, _ :: _, _, _, _, _, none :: _, _, _, _, q => by cases q
  | _ :: _, _ :: _, _, _, _, _, some _ :: _, [], _, _, q => by cases q
theorem X.soundo : ∀ (xs : List X) (sc : Scope) (fn : Str → Bool) (E : XK) (W : Cx) (o : Option Expr), CxOk k sc fn lv CX E W → X.oko k sc fn xs o = true → PO W o (tPartX W.K W.mg E (X.evo k.Γ xs))
  | [], sc, fn, E, W, none, h, q => po_none
  | [x], sc, fn, E, W, some e, h, q => po_some (X.sound x sc fn E W e h q).1
  | [], _, _, _, _, some _, _, q => by cases q
  | [_], _, _, _, _, none, _, q => by cases q
  | _ :: _ :: _, _, _, _, _, none, _, q => by cases q
  | _ :: _ :: _, _, _, _, _, some _, _, q => by cases q
theorem X.soundc : ∀ (xs : List X) (sc : Scope) (fn : Str → Bool) (W : Cx) (es : List Expr), CxOk k sc fn lv CX E0 W → X.okc k sc fn xs es = true → PTs W es (ttOf W.K W.mg (X.evo k.Γ xs))
  | [], sc, fn, W, [], h, q => pts_nil
  | [x], sc, fn, W, [e], h, q => pts_one (X.sound x sc fn E0 W e h q).2
  | [], _, _, _, _ :: _, _, q => by cases q
  | [_], _, _, _, [], _, q => by cases q
  | [_], _, _, _, _ :: _ :: _, _, q => by cases q
  | _ :: _ :: _, _, _, _, [], _, q => by cases q
  | _ :: _ :: _, _, _, _, [_], _, q => by cases q
  | _ :: _ :: _, _, _, _, _ :: _ :: _, _, q => by cases q
theorem X.soundAnd : ∀ (xs : List X) (sc : Scope) (fn : Str → Bool) (E : XK) (W : Cx) (es : List Expr) (p : Pos), CxOk k sc fn lv CX E W → X.oks k sc fn xs es = true → PE W (.BoolOp .And es p) (TX W.K W.mg E (X.evAnd k.Γ xs)) ∧ PW W (.BoolOp .And es p) (TXb W.K W.mg E (X.evAnd k.Γ xs))
  | [], sc, fn, E, W, es, p, h, q => ⟨⟨fun _ _ _ _ _ _ hw => by
      obtain ⟨c, env, ρ, G, μ, hK, hm, re, eo, z⟩ := hw
      exact z.elim⟩, ⟨fun _ _ _ _ _ _ _ hw => by
      obtain ⟨c, env, ρ, G, μ, hK, hm, re, eo, z⟩ := hw
      exact z.elim⟩⟩
  | [x], sc, fn, E, W, es, p, h, q => by
    cases es with
    | nil => cases q
    | cons e es =>
      cases es with
      | nil =>
        obtain ⟨q, _⟩ := and_ok q
        obtain ⟨q1, q2⟩ := and_ok q
        obtain ⟨h1, h2⟩ := X.sound x sc fn E W e h q2
        exact ⟨pe_one h1, pw_and1 h2⟩
      | cons f es =>
        obtain ⟨_, q⟩ := and_ok q
        cases q
  | x :: y :: xs, sc, fn, E, W, es, p, h, q => by
    cases es with
    | nil => cases q
    | cons e es =>
      cases es with
      | nil =>
        obtain ⟨_, q⟩ := and_ok q
        cases q
      | cons f es =>
        obtain ⟨q, q3⟩ := and_ok q
        obtain ⟨q1, q2⟩ := and_ok q
        obtain ⟨h1, h2⟩ := X.sound x sc fn E W e h q2
        obtain ⟨h3, h4⟩ := X.soundAnd (y :: xs) sc fn E W (f :: es) p h q3
        exact ⟨PE.imp (pe_and h1 h3) tx_and, PW.imp (pw_and h2 h4) txb_and⟩
theorem X.soundOr : ∀ (xs : List X) (sc : Scope) (fn : Str → Bool) (E : XK) (W : Cx) (es : List Expr) (p : Pos), CxOk k sc fn lv CX E W → X.oks k sc fn xs es = true → PE W (.BoolOp .Or es p) (TX W.K W.mg E (X.evOr k.Γ xs)) ∧ PW W (.BoolOp .Or es p) (TXb W.K W.mg E (X.evOr k.Γ xs))
  | [], sc, fn, E, W, es, p, h, q => ⟨⟨fun _ _ _ _ _ _ hw => by
      obtain ⟨c, env, ρ, G, μ, hK, hm, re, eo, z⟩ := hw
      exact z.elim⟩, ⟨fun _ _ _ _ _ _ _ hw => by
      obtain ⟨c, env, ρ, G, μ, hK, hm, re, eo, z⟩ := hw
      exact z.elim⟩⟩
  | [x], sc, fn, E, W, es, p, h, q => by
    cases es with
    | nil => cases q
    | cons e es =>
      cases es with
      | nil =>
        obtain ⟨q, _⟩ := and_ok q
        obtain ⟨q1, q2⟩ := and_ok q
        obtain ⟨h1, h2⟩ := X.sound x sc fn E W e h q2
        exact ⟨pe_one h1, pw_or1 h2⟩
      | cons f es =>
        obtain ⟨_, q⟩ := and_ok q
        cases q
  | x :: y :: xs, sc, fn, E, W, es, p, h, q => by
    cases es with
    | nil => cases q
    | cons e es =>
      cases es with
      | nil =>
        obtain ⟨_, q⟩ := and_ok q
        cases q
      | cons f es =>
        obtain ⟨q, q3⟩ := and_ok q
        obtain ⟨q1, q2⟩ := and_ok q
        obtain ⟨h1, h2⟩ := X.sound x sc fn E W e h q2
        obtain ⟨h3, h4⟩ := X.soundOr (y :: xs) sc fn E W (f :: es) p h q3
        exact ⟨PE.imp (pe_or h1 h3) tx_or, PW.imp (pw_or h2 h4) txb_or⟩
theorem Src.sound : ∀ (s : Src) (sc : Scope) (fn : Str → Bool) (E : XK) (W : Cx) (e tg : Expr), CxOk k sc fn lv CX E W → s.ok k sc fn e tg = true → PI W tg e (TXi W.K W.mg E (s.ev k.Γ))
  | .lst x, sc, fn, E, W, e, tg, h, q => PI.imp (pi_list (X.sound x sc fn E W e h q).1) txi_list
  | .sgn x, sc, fn, E, W, e, tg, h, q => PI.imp (pi_str (X.sound x sc fn E W e h q).1) txi_str
  | .tup x, sc, fn, E, W, e, tg, h, q => PI.imp (pi_tup (X.sound x sc fn E W e h q).1) txi_tup
  | .rng xs, sc, fn, E, W, e, tg, h, q => by
    obtain ⟨t, e1, q⟩ := optB_ok q
    obtain ⟨q0, p, rfl⟩ := asCall_eq e1
    obtain ⟨q, q3⟩ := and_ok q
    obtain ⟨q1, q2⟩ := and_ok q
    obtain ⟨n1, n2, n3⟩ := bi_ok h q1
    obtain ⟨hs, hn⟩ := X.sounds xs sc fn E W _ h q3
    obtain ⟨x0, a, es⟩ := t
    subst n1
    cases es with
    | nil =>
      have st : starEach [a] W.env = [(false, eval a W.env)] := star_cons (hn _ List.mem_cons_self)
      refine PI.imp (pi_range1 n2 n3 hs st) fun σ H R z => txi_rng1 σ H R ?_
      cases xs with
      | nil => cases q3
      | cons x xs =>
        cases xs with
        | cons y xs =>
          obtain ⟨_, q⟩ := and_ok q3
          cases q
        | nil =>
          have z' : TXi W.K W.mg E (fun env μ => rb (fCons (x.ev k.Γ) fNil env μ) dRng) σ H R := z
          show TXi W.K W.mg E (fun env μ => rb (fCons (x.ev k.Γ) fNil env μ) fun ds μ1 => match ds with
            | [d] => dRng [d] μ1
            | _ => none) σ H R
          simp only [rb_one] at z' ⊢
          exact z'
    | cons b es =>
      cases es with
      | nil =>
        have st2 : starEach [b] W.env = [(false, eval b W.env)] := star_cons (hn _ (by simp))
        have st : starEach [a, b] W.env = [(false, eval a W.env), (false, eval b W.env)] := by
          rw [star_cons (hn _ List.mem_cons_self), st2]
        refine PI.imp (pi_range2 n2 n3 hs st st2) fun σ H R z => txi_rng2 σ H R ?_
        cases xs with
        | nil => cases q3
        | cons x xs =>
          cases xs with
          | nil =>
            obtain ⟨_, q⟩ := and_ok q3
            cases q
          | cons y xs =>
            cases xs with
            | cons w xs =>
              obtain ⟨_, q⟩ := and_ok q3
              obtain ⟨_, q⟩ := and_ok q
              cases q
            | nil =>
              have z' : TXi W.K W.mg E (fun env μ => rb (fCons (x.ev k.Γ) (fCons (y.ev k.Γ) fNil) env μ) dRng) σ H R := z
              show TXi W.K W.mg E (fun env μ => rb (fCons (x.ev k.Γ) (fCons (y.ev k.Γ) fNil) env μ) fun ds μ1 => match ds with
                | [d, e] => dRng [d, e] μ1
                | _ => none) σ H R
              simp only [rb_two] at z' ⊢
              exact z'
      | cons c es => exact absurd (of_decide_eq_true q2) (by simp)
  | .enum x, sc, fn, E, W, e, tg, h, q => by
    obtain ⟨q, q0⟩ := and_ok q
    obtain ⟨es, n, pp, rfl⟩ := isTupE_eq q
    obtain ⟨t, e1, q⟩ := optB_ok q0
    obtain ⟨qq, p, rfl⟩ := asCall_eq e1
    obtain ⟨q, q4⟩ := and_ok q
    obtain ⟨q, q3⟩ := and_ok q
    obtain ⟨q1, q2⟩ := and_ok q
    obtain ⟨n1, n2, n3⟩ := bi_ok h q1
    obtain ⟨x0, a, as⟩ := t
    subst n1
    cases as with
    | cons _ _ => cases q2
    | nil => exact PI.imp (pi_enum n2 n3 (PA.imp (pa_cons (X.sound x sc fn E W a h q4).1 (PA.imp pa_nil txs_nil) (star_cons q3)) txs_cons) (star_cons q3)) txi_enum
  | .rng3 xs, sc, fn, E, W, e, tg, h, q => by
    obtain ⟨t, e1, q⟩ := optB_ok q
    obtain ⟨q0, p, rfl⟩ := asCall3_eq e1
    obtain ⟨q1, q3⟩ := and_ok q
    obtain ⟨n1, n2, n3⟩ := bi_ok h q1
    obtain ⟨hs, hn⟩ := X.sounds xs sc fn E W _ h q3
    obtain ⟨x0, a, b, c⟩ := t
    subst n1
    exact PI.imp (pi_range3 n2 n3 hs (star_cons (hn _ List.mem_cons_self)) (star_any fun x hx => hn x (List.mem_cons_of_mem _ hx))) txi_rng3
  | .enumT x, sc, fn, E, W, e, tg, h, q => by
    obtain ⟨q, q0⟩ := and_ok q
    obtain ⟨es, n, pp, rfl⟩ := isTupE_eq q
    obtain ⟨t, e1, q⟩ := optB_ok q0
    obtain ⟨qq, p, rfl⟩ := asCall_eq e1
    obtain ⟨q, q4⟩ := and_ok q
    obtain ⟨q, q3⟩ := and_ok q
    obtain ⟨q1, q2⟩ := and_ok q
    obtain ⟨n1, n2, n3⟩ := bi_ok h q1
    obtain ⟨x0, a, as⟩ := t
    subst n1
    cases as with
    | cons _ _ => cases q2
    | nil => exact PI.imp (pi_enN n2 n3 (PA.imp (pa_cons (X.sound x sc fn E W a h q4).1 (PA.imp pa_nil txs_nil) (star_cons q3)) txs_cons) (star_cons q3)) txi_enumT
  | .zipL x y, sc, fn, E, W, e, tg, h, q => by
    obtain ⟨q, q0⟩ := and_ok q
    obtain ⟨es, n, pp, rfl⟩ := isTupE_eq q
    obtain ⟨t, e1, q⟩ := optB_ok q0
    obtain ⟨qq, p, rfl⟩ := asCall2_eq e1
    obtain ⟨q, q5⟩ := and_ok q
    obtain ⟨q, q4⟩ := and_ok q
    obtain ⟨q, q3⟩ := and_ok q
    obtain ⟨q1, q2⟩ := and_ok q
    obtain ⟨n1, n2, n3⟩ := bi_ok h q1
    obtain ⟨x0, a, b⟩ := t
    subst n1
    have hn : allNS [b] := allNS_cons q3 allNS_nil
    exact PI.imp (pi_zip n2 n3 (PA.imp (pa_cons (X.sound x sc fn E W a h q4).1 (PA.imp (pa_cons (X.sound y sc fn E W b h q5).1 (PA.imp pa_nil txs_nil) (star_cons q3)) txs_cons) (star_cons q2)) txs_cons) (star_cons q2) (star_any hn)) txi_zipL
  | .zip x y, sc, fn, E, W, e, tg, h, q => by
    obtain ⟨q, q0⟩ := and_ok q
    obtain ⟨es, n, pp, rfl⟩ := isTupE_eq q
    obtain ⟨t, e1, q⟩ := optB_ok q0
    obtain ⟨qq, p, rfl⟩ := asCall2_eq e1
    obtain ⟨q, q5⟩ := and_ok q
    obtain ⟨q, q4⟩ := and_ok q
    obtain ⟨q, q3⟩ := and_ok q
    obtain ⟨q1, q2⟩ := and_ok q
    obtain ⟨n1, n2, n3⟩ := bi_ok h q1
    obtain ⟨x0, a, b⟩ := t
    subst n1
    have hn : allNS [b] := allNS_cons q3 allNS_nil
    exact PI.imp (pi_zip n2 n3 (PA.imp (pa_cons (X.sound x sc fn E W a h q4).1 (PA.imp (pa_cons (X.sound y sc fn E W b h q5).1 (PA.imp pa_nil txs_nil) (star_cons q3)) txs_cons) (star_cons q2)) txs_cons) (star_cons q2) (star_any hn)) txi_zip
end
end
end Lv
set_option Elab.async false
set_option linter.all false
set_option maxRecDepth 100000
set_option autoImplicit false
/-! exceptions: tests of a caught one, suites, tries -/
namespace Lv
open PySem PySem.Spec PyProof.Rows L2
def rIsET (K : PySem.W.Frag) (D a : Addr) : List V → Hp → VK → Prop := fun xs H Q => ∃ (p : Addr) (cs : List V) (b : Bool), xs = [.ref a, .ref p] ∧ H p = some (.tup cs) ∧ (∀ us, Vals cs us → PySem.W.kitAny K (.ref D) us = some b) ∧ Q (.bl b) H
/-- the exception's dict stands in the heap -/
def DdH (dd : Option Addr) (H : Hp) : Prop := dd = none ∨ ∃ d ws, dd = some d ∧ H d = some (.xd ws)
theorem DdH.up {dd : Option Addr} {H H' : Hp} (e : Same H H') (h : DdH dd H) : DdH dd H' := by
  rcases h with h | ⟨d, ws, h1, h2⟩
  · exact .inl h
  · exact .inr ⟨d, ws, h1, e _ _ h2⟩
theorem XdG.dd {dd : Option Addr} {fs : List (Str × Lv.D)} {G H : Hp} (e : Same G H) (h : XdG dd fs G) : DdH dd H := by
  rcases h with h | ⟨d, h1, h2⟩
  · exact .inl h.1
  · exact .inr ⟨d, _, h1, e _ _ h2.2⟩
theorem inst_at {X : Cx} {pins : List (Addr × Obj)} {σ : L2.St} {H : Hp} {s : Shared} {a D : Addr} {oe : Obj} {dd : Option Addr} (I : Inv X pins σ H s) (hget : s.heap.get? a = some oe) (hz : Zc (.ref D) dd oe) (hf : ∃ vs, oe.data = .fields vs) (hd : DdH dd H) : ∃ od, PySem.W.InstAt s.heap a oe D od := by
  obtain ⟨vs, hv⟩ := hf
  rcases hd with rfl | ⟨d, ws, rfl, h2⟩
  · obtain ⟨oc, od, oda, osl⟩ := oe
    obtain ⟨h1, h2⟩ := hz
    dsimp only at h1 h2 hv
    subst h1 h2 hv
    exact ⟨none, hget, rfl, rfl, trivial⟩
  · have hx : ObjOk X.prog X.w H s.heap d (.xd ws) := I.hok d _ h2
    obtain ⟨mA, hns, hr⟩ := hx
    obtain ⟨od, ho, hl⟩ := lookIn_ns hns
    exact ⟨some od, hget, hz.1, by unfold PySem.W.notCls; rw [hv], by rw [hz.2]; exact ho⟩
theorem kx_of {X : Cx} {a D : Addr} {oe : Obj} {od : Option Obj} (C : ExcC X.K D) : PySem.W.KitX X.K (.ref a) (.ref D) (fun h => PySem.W.InstAt h a oe D od) := by
  obtain ⟨cd, hc, _⟩ := PySem.W.any_some C.hd
  exact PySem.W.kitx_exc (by rw [hc]; rfl) C.hg C.hk C.hs C.ha C.hn C.ht C.hm
theorem call_isET {X : Cx} {a D : Addr} {oe : Obj} {dd : Option Addr} (hpn : (a, oe) ∈ X.pn) (C : ExcC X.K D) (hz : Zc (.ref D) dd oe) (hf : ∃ vs, oe.data = .fields vs) : CallR X (.builtin "isinstance") (fun xs H Q => DdH dd H ∧ rIsET X.K D a xs H Q) := by
  intro pins s σ H xs us Q I r h
  obtain ⟨hdd, p, cs, b, rfl, hp, e, q⟩ := h
  cases r with
  | cons rx rr =>
    cases rr with
    | cons rt rr =>
      cases rr
      cases rx
      cases rt
      obtain ⟨its, rv, tp, hzz⟩ := I.tuple (SqT.of hp)
      obtain ⟨o, h1, h2, n, h3⟩ := tp
      obtain ⟨hget, _⟩ := I.pin (a, oe) (List.mem_append.mpr (.inl hpn))
      obtain ⟨od, J⟩ := inst_at I hget hz hf hdd
      obtain ⟨oc, odd, oda, osl⟩ := o
      dsimp only at h2 h3
      subst h2 h3
      exact PySem.W.kia_tup (its := its) (kx_of C) I.kIn J h1 (e _ rv) (fun z => nomatch z) fun tk => ⟨.bl b, H, I.kept (t' := tk) fun _ _ z => z, rfl, q⟩
theorem call_isEX {X : Cx} {a D : Addr} {oe : Obj} {dd : Option Addr} (hpn : (a, oe) ∈ X.pn) (C : ExcC X.K D) (hz : Zc (.ref D) dd oe) (hf : ∃ vs, oe.data = .fields vs) : CallR X (.builtin "isinstance") (fun xs H Q => DdH dd H ∧ rIsE X.K D a xs H Q) := by
  intro pins s σ H xs us Q I r h
  obtain ⟨hdd, c, cv, b, rfl, hcv, e, q⟩ := h
  cases r with
  | cons rx rr =>
    cases rr with
    | cons rt rr =>
      cases rr
      cases rx
      have ec := hcv _ rt
      subst ec
      obtain ⟨hget, _⟩ := I.pin (a, oe) (List.mem_append.mpr (.inl hpn))
      obtain ⟨od, J⟩ := inst_at I hget hz hf hdd
      exact PySem.W.kia_one (kx_of C) I.kIn J e (fun z => nomatch z) fun tk => ⟨.bl b, H, I.kept (t' := tk) fun _ _ z => z, rfl, q⟩
theorem pe_pred {W : Cx} {a D : Addr} {oe : Obj} {ts : List Str} {cls g x : Str} {cs : List Str} {p xp pos : Pos} {j : Nat} {dd : Option Addr} {fs : List (Str × Lv.D)} (hpn : (a, oe) ∈ W.pn) (F : PrOk W.prog W.w W.K W.mg W.base ts g cs) (hr : L2H.RoomH 1 W.A) (X : ExR W.K W.mg ts cls D) (hz : Zc (.ref D) dd oe) (hf : ∃ vs, oe.data = .fields vs) (hg : Gl W g) (hx : PE W (.Name x xp) (tVar j)) (hdb : (g == ("__debug__" : Str)) = false) :
    PE W (.Call (.Name g p) [.Name x xp] [] pos) (fun σ H Q => σ[j]? = some (some (V.ref a)) ∧ ∃ c ρ G μ, c.K = W.K ∧ c.mg = W.mg ∧ XdG dd fs G ∧ Rel c ρ G μ H ∧ ∀ ρ' G' H', ρ <+: ρ' → Same G G' → Rel c ρ' G' μ H' → Q (.bl (cs.any (subE cls))) H') := by
  obtain ⟨f, y, fd, w1, w2, w3, w4⟩ := F
  refine ⟨fun pins s σ H Q I h => ?_⟩
  obtain ⟨hs, hq⟩ := h
  refine wpAny_Call_Name_kw (ld_glob I hg w1 ?_ hdb)
  have ha : PA W [.Name x xp] (tCons (tVar j) tNil) := pa_cons hx pa_nil rfl
  have z : tCons (tVar j) tNil σ H (fun vs H1 => vs = [.ref a] ∧ H1 = H) := ⟨.ref a, hs, rfl, rfl⟩
  refine PySem.W.callWith_K (h₀ := W.base) I.ok.mod.kin w2 (thn (ha.run pos pins s σ H _ I z) fun us s1 ⟨vs, H1, I1, r, q⟩ => ⟨I1.kIn, ?_⟩) rfl rfl
  obtain ⟨q1, q2⟩ := q
  subst q1 q2
  cases r with
  | cons rx rr =>
    cases rr
    cases rx
    have b := w3 s1 [.ref a] I1.kIn rfl
    rw [List.append_nil] at b
    have P1 := I1.pin (a, oe) (List.mem_append_left _ hpn)
    have hpin : L2H.PinOk W.stack H1 s1 (a, oe) := ⟨P1.1, P1.2.1, fun hm => (List.mem_cons.mp (I1.stkSub a hm)).elim P1.2.2.1 P1.2.2.2.1, P1.2.2.2.2⟩
    refine wpAny_call (codeAny_mono (w4 W.A W.stack s1 H1 a oe D dd fs cls ⟨[.ref a], []⟩ Q hr I1.env0 hpin hz hf X hq b) fun r s' hq' => ?_)
    cases r with
    | error e => exact (show L2.CX W.prog W.w W.stack H1 s1 E0 e s' → _ from fun c => by
        obtain ⟨_, _, _, _, _, _, _, _, _, _, _, _, z⟩ := c
        exact z.elim) hq'
    | ok fl =>
      cases fl with
      | ret u => exact I1.after hq'
      | next => exact False.elim hq'
      | brk => exact False.elim hq'
      | cont => exact False.elim hq'
theorem TX.mono {K : PySem.W.Frag} {mg : Str → Option Value} {E : XK} {f : FE} {σ : L2.St} {H : Hp} {Q Q' : VK} (h : TX K mg E f σ H Q) (q : ∀ v H', Q v H' → Q' v H') : TX K mg E f σ H Q' := by
  obtain ⟨c, env, ρ, G, μ, hK, hm, re, eo, h⟩ := h
  exact ⟨c, env, ρ, G, μ, hK, hm, re, eo, h.imp fun d ρ' G' μ' H' _ _ _ z v hv => q v H' (z v hv)⟩
theorem TXs.mono {K : PySem.W.Frag} {mg : Str → Option Value} {E : XK} {f : FEs} {σ : L2.St} {H : Hp} {Q Q' : List V → Hp → Prop} (h : TXs K mg E f σ H Q) (q : ∀ v H', Q v H' → Q' v H') : TXs K mg E f σ H Q' := by
  obtain ⟨c, env, ρ, G, μ, hK, hm, re, eo, h⟩ := h
  exact ⟨c, env, ρ, G, μ, hK, hm, re, eo, h.imp fun d ρ' G' μ' H' _ _ _ z v hv => q v H' (z v hv)⟩
/-- slot j holds the exception; its dict is known -/
def TXe (K : PySem.W.Frag) (mg : Str → Option Value) (j : Nat) (a : Addr) (dd : Option Addr) (fs : List (Str × Lv.D)) (f : FE) : TE := fun σ H Q => σ[j]? = some (some (V.ref a)) ∧ ∃ c env ρ G μ, c.K = K ∧ c.mg = mg ∧ XdG dd fs G ∧ Rel c ρ G μ H ∧ EnvOk c ρ G env σ ∧ Fin c E0 ρ G (f env μ) fun d ρ' G' _ H' => ∀ v, Rep K c.B ρ' G' d v → Q v H'
def sideT (j : Nat) (a : Addr) (t : TE) : TE := fun σ H Q => σ[j]? = some (some (V.ref a)) ∧ t σ H Q
def sideA (j : Nat) (a : Addr) (t : TA) : TA := fun σ H Q => σ[j]? = some (some (V.ref a)) ∧ t σ H Q
section
variable {k : Ck} {sc : Scope} {fn : Str → Bool} {lv : Nat} {CX : CXT} {E : XK} {W : Cx} {a D : Addr} {oe : Obj} {pn : List (Addr × Obj)} {j : Nat} {cls : Str}
/-- what a suite's context keeps -/
structure SuOk (k : Ck) (sc : Scope) (fn : Str → Bool) (W : Cx) : Prop where
  hN : W.N = k.N
  nd : k.N.Nodup
  hsc : W.env.scope = sc
  blt : ∀ b ∈ k.bs, W.mg b = none
  fnx : ∀ x, fn x = true → W.fn x = true
  prs : ∀ g cs, (g, cs) ∈ k.ob.prd → L2H.RoomH 1 W.A ∧ PrOk W.prog W.w W.K W.mg W.base k.ts g cs
theorem su_loc (h : SuOk k sc fn W) {x : Str} (q : locb sc fn x = true) : Loc W.env.scope x ∧ (W.fn x = true ∨ W.env.scope.names.lookup x = some .local) := by
  rw [h.hsc]
  unfold locb at q
  split at q
  · exact ⟨.inl (by assumption), .inr (by assumption)⟩
  · exact ⟨.inr (by assumption), .inl (h.fnx x q)⟩
  · cases q
theorem su_gl (h : SuOk k sc fn W) {x : Str} (q : glb sc x = true) : Gl W x := by
  unfold glb at q
  split at q
  · show W.env.scope.names.lookup x = some .globalImplicit
    rw [h.hsc]
    assumption
  · cases q
theorem su_vis (h : SuOk k sc fn W) {x : Str} (q : vis sc x = true) : Vis W.env.scope x := by
  rw [h.hsc]
  unfold vis at q
  split at q
  · exact .inl (by assumption)
  · exact .inr (.inl (by assumption))
  · exact .inr (.inr (by assumption))
  · cases q
theorem su_bi (h : SuOk k sc fn W) {b x : Str} (q : bi k sc b x = true) : x = b ∧ Gl W x ∧ W.mg x = none := by
  unfold bi at q
  rw [Bool.and_eq_true, Bool.and_eq_true] at q
  exact ⟨of_decide_eq_true q.1.1, su_gl h q.1.2, h.blt x (of_decide_eq_true q.2)⟩
theorem cls_pe (h : SuOk k sc fn W) {x : Str} {pos : Pos} {cv : Value} (q : clsN k sc x = true) (hc : CV W.mg x cv) : ∃ v, (RelV v cv ∧ ∀ u, RelV v u → u = cv) ∧ PE W (.Name x pos) (tC v) := by
  unfold clsN at q
  obtain ⟨q, q3⟩ := and_ok q
  obtain ⟨q1, q2⟩ := and_ok q
  obtain ⟨n1, n2, n3⟩ := nm_ok q2
  obtain ⟨hg, v, r1, r2⟩ := hc
  refine ⟨v, ⟨r1, r2⟩, ?_⟩
  rcases hg with hg | ⟨hg, hb⟩
  · exact pe_glob (su_gl h q1) hg r1 n1
  · exact pe_bltn (su_gl h q1) hg hb r1 n3 n1
theorem clss_pe (h : SuOk k sc fn W) (X : ExR W.K W.mg k.ts cls D) : ∀ (cs : List Str) (es : List Expr), clsNs k sc cs es = true → ∃ vs : List V, (∀ us, Vals vs us → PySem.W.kitAny W.K (.ref D) us = some (cs.any (subE cls))) ∧ PA W es (fun _ H Q => Q vs H) ∧ vs.length = es.length
  | [], [], _ => ⟨[], fun us r => by cases r; rfl, pa_nil, rfl⟩
  | c :: cs, .Name x p :: es, q => by
    have q' : (decide (x = c) && clsN k sc x && clsNs k sc cs es) = true := q
    obtain ⟨q', q3⟩ := and_ok q'
    obtain ⟨q1, q2⟩ := and_ok q'
    obtain ⟨vs, h1, h2, h3⟩ := clss_pe h X cs es q3
    have q1' := of_decide_eq_true q1
    subst q1'
    have hm : x ∈ k.ts := by
      unfold clsN at q2
      exact of_decide_eq_true (and_ok q2).2
    obtain ⟨cv, c1, c2, _⟩ := X.q x hm
    obtain ⟨v, ⟨_, r2⟩, pe⟩ := cls_pe (pos := p) h q2 c1
    refine ⟨v :: vs, fun us r => ?_, pa_cons pe h2 (star_cons rfl), by rw [List.length_cons, List.length_cons, h3]⟩
    · cases r with
      | cons r1 r =>
        rename_i u us
        have e := r2 _ r1
        subst e
        show (match PySem.W.kitOne W.K (.ref D) u with
          | some true => some true
          | some false => PySem.W.kitAny W.K (.ref D) us
          | none => none) = _
        rw [c2, List.any_cons]
        cases subE cls x with
        | true => rfl
        | false => exact h1 us r
  | [], _ :: _, q => by cases q
  | _ :: _, [], q => by cases q
  | c :: cs, e :: es, q => by
    cases e with
    | Name x p =>
      have q' : (decide (x = c) && clsN k sc x && clsNs k sc cs es) = true := q
      obtain ⟨q', q3⟩ := and_ok q'
      obtain ⟨q1, q2⟩ := and_ok q'
      obtain ⟨vs, h1, h2, h3⟩ := clss_pe h X cs es q3
      have q1' := of_decide_eq_true q1
      subst q1'
      have hm : x ∈ k.ts := by
        unfold clsN at q2
        exact of_decide_eq_true (and_ok q2).2
      obtain ⟨cv, c1, c2, _⟩ := X.q x hm
      obtain ⟨v, ⟨_, r2⟩, pe⟩ := cls_pe (pos := p) h q2 c1
      refine ⟨v :: vs, fun us r => ?_, pa_cons pe h2 (star_cons rfl), by rw [List.length_cons, List.length_cons, h3]⟩
      · cases r with
        | cons r1 r =>
          rename_i u us
          have e := r2 _ r1
          subst e
          show (match PySem.W.kitOne W.K (.ref D) u with
            | some true => some true
            | some false => PySem.W.kitAny W.K (.ref D) us
            | none => none) = _
          rw [c2, List.any_cons]
          cases subE cls x with
          | true => rfl
          | false => exact h1 us r
    | _ => cases q
/-- one test -/
theorem ET.soundX (h : SuOk k sc fn W) (hpn : (a, oe) ∈ W.pn) (X : ExR W.K W.mg k.ts cls D) {dd : Option Addr} {fs : List (Str × Lv.D)} (hz : Zc (.ref D) dd oe) (hf : ∃ vs, oe.data = .fields vs) (t : ET) (e : Expr) (q : t.ok k sc j e = true) :
    PE W e (TXe W.K W.mg j a dd fs (t.ev cls)) := by
  unfold ET.ok at q
  split at q
  · rename_i c f fp x xp y yp pos
    obtain ⟨q, q6⟩ := and_ok q
    obtain ⟨q, q5⟩ := and_ok q
    obtain ⟨q, q4⟩ := and_ok q
    obtain ⟨q, q3⟩ := and_ok q
    obtain ⟨q1, q2⟩ := and_ok q
    have q5' := of_decide_eq_true q5
    subst q5'
    obtain ⟨n1, n2, n3⟩ := su_bi h q1
    obtain ⟨m1, m2, m3⟩ := nm_ok q4
    have hm : y ∈ k.ts := by
      unfold clsN at q6
      exact of_decide_eq_true (and_ok q6).2
    obtain ⟨cv, c1, c2, _⟩ := X.q y hm
    obtain ⟨v, ⟨_, r2⟩, pe⟩ := cls_pe (pos := yp) h q6 c1
    have hx : PE W (.Name x xp) (tVar j) := pe_var (by rw [h.hN]; exact of_decide_eq_true q2) (su_vis h q3) m1 m2
    have hv : bootBuiltins f = some (.builtin "isinstance") := by
      rw [n1]
      exact PyProof.Rows.boot_isinstance
    refine PE.imp (pe_callB (call_isEX hpn X.c hz hf) n2 n3 hv (pa_cons hx (pa_cons pe pa_nil) (star_cons rfl)) (by rw [n1]; decide +kernel) (by rw [n1]; decide +kernel) (star_cons rfl)) ?_
    rintro σ H Q ⟨hs, c, env, ρ, G, μ, hK, hm, hx0, re, eo, hq⟩
    exact ⟨_, hs, hx0.dd re.gh, v, cv, subE cls y, rfl, r2, c2, Fin.ok re hq _ rfl⟩
  · rename_i cs f fp x xp es kk tp pos
    obtain ⟨q, q7⟩ := and_ok q
    obtain ⟨q, q6⟩ := and_ok q
    obtain ⟨q, q4⟩ := and_ok q
    obtain ⟨q, q3⟩ := and_ok q
    obtain ⟨q1, q2⟩ := and_ok q
    obtain ⟨n1, n2, n3⟩ := su_bi h q1
    obtain ⟨m1, m2, m3⟩ := nm_ok q4
    obtain ⟨vs, k1, k2, k3⟩ := clss_pe h X cs es q6
    have hx : PE W (.Name x xp) (tVar j) := pe_var (by rw [h.hN]; exact of_decide_eq_true q2) (su_vis h q3) m1 m2
    have hv : bootBuiltins f = some (.builtin "isinstance") := by
      rw [n1]
      exact PyProof.Rows.boot_isinstance
    refine PE.imp (pe_callB (call_isET hpn X.c hz hf) n2 n3 hv (pa_cons hx (pa_cons (pe_tup k2) pa_nil (star_cons rfl)) (star_cons rfl)) (by rw [n1]; decide +kernel) (by rw [n1]; decide +kernel) (star_cons rfl)) ?_
    rintro σ H Q ⟨hs, c, env, ρ, G, μ, hK, hm, hx0, re, eo, hq⟩
    refine ⟨_, hs, ?_, fun p hp => ⟨(hx0.dd re.gh).up (same_upd hp), p, vs, cs.any (subE cls), rfl, upd_same, k1, ?_⟩⟩
    · exact lim_size (by rw [k3]; exact Nat.le_trans (of_decide_eq_true q7) (by decide))
    · exact Fin.ok_at (List.prefix_refl _) (same_upd (re.none_g hp)) (re.frozen hp) hq _ rfl
  · rename_i i x xp
    obtain ⟨q, q4⟩ := and_ok q
    obtain ⟨q2, q3⟩ := and_ok q
    obtain ⟨m1, m2, m3⟩ := nm_ok q4
    refine PE.imp (pe_var (by rw [h.hN]; exact of_decide_eq_true q2) (su_vis h q3) m1 m2) ?_
    rintro σ H Q ⟨hs, c, env, ρ, G, μ, hK, hm, hx0, re, eo, hq⟩
    have hq' : Fin c E0 ρ G (match (match env[i]? with
      | some (some (.bl b)) => some b
      | _ => none) with
      | some b => Lv.ok (Lv.D.bl b) μ
      | none => none) fun d ρ' G' _ H' => ∀ v, Rep W.K c.B ρ' G' d v → Q v H' := hq
    cases e' : env[i]? with
    | none =>
      rw [e'] at hq'
      exact fin_none hq'
    | some o =>
      rw [e'] at hq'
      cases o with
      | none => exact fin_none hq'
      | some d =>
        cases d with
        | bl b =>
          obtain ⟨v, q1, q2⟩ := eo.2 i _ e'
          exact ⟨v, q1, Fin.ok re hq' v (by rw [← hK]; exact q2)⟩
        | _ => exact fin_none hq'
  · rename_i g cs f fp x xp pos
    obtain ⟨q, q7⟩ := and_ok q
    obtain ⟨q, q6⟩ := and_ok q
    obtain ⟨q, q5⟩ := and_ok q
    obtain ⟨q, q4⟩ := and_ok q
    obtain ⟨q, q3⟩ := and_ok q
    obtain ⟨q1, q2⟩ := and_ok q
    have q1' := of_decide_eq_true q1
    subst q1'
    obtain ⟨n1, n2, n3⟩ := nm_ok q3
    obtain ⟨m1, m2, m3⟩ := nm_ok q6
    have hx : PE W (.Name x xp) (tVar j) := pe_var (by rw [h.hN]; exact of_decide_eq_true q4) (su_vis h q5) m1 m2
    refine PE.imp (pe_pred (fs := fs) hpn (h.prs _ _ (of_decide_eq_true q7)).2 (h.prs _ _ (of_decide_eq_true q7)).1 X hz hf (su_gl h q2) hx n1) ?_
    rintro σ H Q ⟨hs, c, env, ρ, G, μ, hK, hm, hx0, re, eo, hq⟩
    exact ⟨hs, c, ρ, G, μ, hK, hm, hx0, re, fun ρ' G' H' p s r => hq ρ' G' H' p s r _ rfl⟩
  · rename_i t i e x xp up bp
    obtain ⟨q, q4⟩ := and_ok q
    obtain ⟨q, q3⟩ := and_ok q
    obtain ⟨q1, q2⟩ := and_ok q
    obtain ⟨m1, m2, m3⟩ := nm_ok q4
    have h1 := ET.soundX (fs := fs) h hpn X hz hf t e q1
    have hx : PE W (.Name x xp) (TX W.K W.mg E0 (fVar i)) := PE.imp (pe_var (by rw [h.hN]; exact of_decide_eq_true q2) (su_vis h q3) m1 m2) (tx_var i)
    refine PE.imp (pe_and h1 (pe_one (pe_not hx))) ?_
    rintro σ H Q ⟨hs, c, env, ρ, G, μ, hK, hm, hx0, re, eo, hq⟩
    have hq' : Fin c E0 ρ G (match (match t.b cls env, env[i]? with
      | some a, some (some (.bl b)) => some (a && !b)
      | _, _ => none) with
      | some b => Lv.ok (Lv.D.bl b) μ
      | none => none) fun d ρ' G' _ H' => ∀ v, Rep W.K c.B ρ' G' d v → Q v H' := hq
    cases e1 : t.b cls env with
    | none =>
      rw [e1] at hq'
      exact fin_none hq'
    | some av =>
      rw [e1] at hq'
      cases e' : env[i]? with
      | none =>
        rw [e'] at hq'
        exact fin_none hq'
      | some o =>
        rw [e'] at hq'
        cases o with
        | none => exact fin_none hq'
        | some d =>
          cases d with
          | bl b =>
            refine ⟨hs, c, env, ρ, G, μ, hK, hm, hx0, re, eo, ?_⟩
            have e3' : t.ev cls env μ = some (Except.ok (Lv.D.bl av, μ)) := by
              unfold ET.ev
              rw [e1]
              rfl
            rw [e3']
            intro ρ1 G1 H1 p1 s1 r1 v hv
            cases hv
            refine ⟨av, rfl, ?_⟩
            have eo1 := eo.up p1 s1
            obtain ⟨v, w1, w2⟩ := eo1.2 i _ e'
            cases av with
            | true =>
              refine (show (if true = true then _ else _) from ?_)
              rw [if_pos rfl]
              refine ⟨c, env, ρ1, G1, μ, hK, hm, r1, eo1, ?_⟩
              have e4 : fVar i env μ = some (Except.ok (Lv.D.bl b, μ)) := by
                unfold fVar
                rw [e']
                rfl
              rw [e4]
              intro ρ2 G2 H2 p2 s2 r2 v2 hv2
              cases hv2
              exact ⟨b, rfl, hq' ρ2 G2 H2 (p1.trans p2) (s1.trans s2) r2 _ rfl⟩
            | false =>
              refine (show (if false = true then _ else _) from ?_)
              rw [if_neg Bool.false_ne_true]
              exact hq' ρ1 G1 H1 p1 s1 r1 _ rfl
          | _ => exact fin_none hq'
  · cases q
theorem ET.sound (h : SuOk k sc fn W) (hpn : (a, oe) ∈ W.pn) (X : ExR W.K W.mg k.ts cls D) (hz : Zc (.ref D) none oe) (hf : ∃ vs, oe.data = .fields vs) (t : ET) (e : Expr) (q : t.ok k sc j e = true) : PE W e (sideT j a (TX W.K W.mg E0 (t.ev cls))) :=
  PE.imp (ET.soundX (fs := []) h hpn X hz hf t e q) fun σ H Q ⟨hs, c, env, ρ, G, μ, hK, hm, re, eo, hq⟩ => ⟨hs, c, env, ρ, G, μ, hK, hm, .inl ⟨rfl, rfl⟩, re, eo, hq⟩
/-! a clause's list -/
def TXse (K : PySem.W.Frag) (mg : Str → Option Value) (j : Nat) (a : Addr) (dd : Option Addr) (fs : List (Str × Lv.D)) (f : FEs) : TA := fun σ H Q => σ[j]? = some (some (V.ref a)) ∧ ∃ c env ρ G μ, c.K = K ∧ c.mg = mg ∧ XdG dd fs G ∧ Rel c ρ G μ H ∧ EnvOk c ρ G env σ ∧ Fin c E0 ρ G (f env μ) fun ds ρ' G' _ H' => ∀ vs, Reps K c.B ρ' G' ds vs → Q vs H'
theorem txse_cons {K : PySem.W.Frag} {mg : Str → Option Value} {a : Addr} {dd : Option Addr} {fs : List (Str × Lv.D)} {f : FE} {g : FEs} : ∀ σ H Q, TXse K mg j a dd fs (fCons f g) σ H Q → TXe K mg j a dd fs f σ H fun v H1 => TXse K mg j a dd fs g σ H1 fun vs H2 => Q (v :: vs) H2 := by
  rintro σ H Q ⟨hs, c, env, ρ, G, μ, hK, hm, hx, re, eo, h⟩
  refine ⟨hs, c, env, ρ, G, μ, hK, hm, hx, re, eo, Fin.imp (Fin.bind h) fun d ρ1 G1 μ1 H1 p1 e1 r1 h1 v hv => ?_⟩
  refine ⟨hs, c, env, ρ1, G1, μ1, hK, hm, hx.up e1, r1, eo.up p1 e1, Fin.imp (Fin.bind h1) fun ds ρ2 G2 μ2 H2 p2 e2 r2 h2 vs hvs => ?_⟩
  exact Fin.ok r2 h2 _ (.cons (hv.mono p2 e2) hvs)
theorem EX.sound {W : Cx} {pn : List (Addr × Obj)} {x : Exn} {dd : Option Addr} {exc : Str} (h : SuOk k sc fn (W.suite a ((a, oe) :: pn))) (X : ExR W.K W.mg k.ts x.cls D) (hz : Zc (.ref D) dd oe) (hf : ∃ vs, oe.data = .fields vs)
    (hx : ∀ f, (k.ob.xc.any fun p => decide (p.1 = exc) && decide (f ∈ p.2)) = true → x.cls = exc → XfC W.K D ∧ PySem.W.findIn W.K (.ref D) f = some none) (t : EX) (e : Expr) (q : t.ok k sc j exc e = true) :
    PE (W.suite a ((a, oe) :: pn)) e (TXe W.K W.mg j a dd x.fs (t.ev exc x)) := by
  have cst : ∀ (d : Lv.D) (v : V), (∀ K B ρ G, Rep K B ρ G d v) → ∀ σ H Q, TXe W.K W.mg j a dd x.fs (fC d) σ H Q → tC v σ H Q := fun d v hr σ H Q ⟨hs, c, env, ρ, G, μ, hK, hm, hx, re, eo, h⟩ => Fin.ok re h v (hr _ _ _ _)
  cases t with
  | int i =>
    obtain ⟨cc, e1, q⟩ := optB_ok q
    obtain ⟨jj, p, rfl⟩ := asConst_eq e1
    have := isIntC_eq q
    subst this
    exact PE.imp pe_int (cst (.int i) (.int i) fun _ _ _ _ => rfl)
  | non =>
    obtain ⟨cc, e1, q⟩ := optB_ok q
    obtain ⟨jj, p, rfl⟩ := asConst_eq e1
    have := isNonC_eq q
    subst this
    exact PE.imp pe_non (cst .non .non fun _ _ _ _ => rfl)
  | tst t => exact ET.soundX (fs := x.fs) h List.mem_cons_self X hz hf t e q
  | fld f =>
    obtain ⟨u, e1, q⟩ := optB_ok q
    obtain ⟨p, rfl⟩ := asAttr_eq e1
    obtain ⟨q, q3⟩ := and_ok q
    obtain ⟨q1, q2⟩ := and_ok q
    obtain ⟨y, e2, q2⟩ := optB_ok q2
    obtain ⟨p2, e3⟩ := asName_eq e2
    obtain ⟨q2, qc⟩ := and_ok q2
    obtain ⟨qa, qb⟩ := and_ok q2
    obtain ⟨m1, m2, m3⟩ := nm_ok qc
    have ef : u.2 = f := of_decide_eq_true q1
    rw [ef, e3]
    have hn : PE (W.suite a ((a, oe) :: pn)) (.Name y p2) (tVar j) := pe_var (by rw [h.hN]; exact of_decide_eq_true qa) (su_vis h qb) m1 m2
    refine ⟨fun pins s σ H Q I w => ?_⟩
    obtain ⟨hs, c, env, ρ, G, μ, hK, hm, hx0, re, eo, hq⟩ := id w
    have hq' : Fin c E0 ρ G (if x.cls = exc then (match x.fs.lookup f with
      | some d => if scalD d = true then Lv.ok d μ else none
      | none => none) else none) fun d ρ' G' _ H' => ∀ v, Rep W.K c.B ρ' G' d v → Q v H' := hq
    split at hq'
    case isFalse => exact hq'.elim
    rename_i hc
    obtain ⟨T, hno⟩ := hx f q3 hc
    split at hq'
    case h_2 => exact hq'.elim
    rename_i d hd
    split at hq'
    case isFalse => exact hq'.elim
    rename_i hsc
    rcases hx0 with ⟨_, z⟩ | ⟨d0, rfl, _, h0⟩
    · rw [z] at hd
      cases hd
    · exact (pe_xf (n := f) (pos := p) T hno hz hf hn (base_ok rfl)).run pins s σ H Q I ⟨.ref a, hs, rfl, rfl, d0, vFs x.fs, vS d, rfl, re.gh _ _ h0, vFs_look hd, Fin.ok re hq' _ (scal_r hsc)⟩
theorem EX.sounds {W : Cx} {pn : List (Addr × Obj)} {x : Exn} {dd : Option Addr} {exc : Str} (h : SuOk k sc fn (W.suite a ((a, oe) :: pn))) (X : ExR W.K W.mg k.ts x.cls D) (hz : Zc (.ref D) dd oe) (hf : ∃ vs, oe.data = .fields vs)
    (hx : ∀ f, (k.ob.xc.any fun p => decide (p.1 = exc) && decide (f ∈ p.2)) = true → x.cls = exc → XfC W.K D ∧ PySem.W.findIn W.K (.ref D) f = some none) : ∀ (ts : List EX) (es : List Expr), EX.oks k sc j exc ts es = true → PA (W.suite a ((a, oe) :: pn)) es (TXse W.K W.mg j a dd x.fs (EX.evs exc x ts)) ∧ allNS es
  | [], [], _ => ⟨PA.imp pa_nil fun σ H Q ⟨hs, c, env, ρ, G, μ, hK, hm, hx, re, eo, z⟩ => Fin.ok re z [] .nil, fun x hx => nomatch hx⟩
  | t :: ts, e :: es, q => by
    have q' : (notStar e && t.ok k sc j exc e && EX.oks k sc j exc ts es) = true := q
    obtain ⟨q', q3⟩ := and_ok q'
    obtain ⟨q1, q2⟩ := and_ok q'
    obtain ⟨h1, h2⟩ := EX.sounds h X hz hf hx ts es q3
    refine ⟨PA.imp (pa_cons (EX.sound h X hz hf hx t e q2) h1 (star_cons q1)) txse_cons, fun y hy => ?_⟩
    rcases List.mem_cons.mp hy with z | z
    · subst z
      exact q1
    · exact h2 y z
  | [], _ :: _, q => by cases q
  | _ :: _, [], q => by cases q
theorem ET.sounds (h : SuOk k sc fn W) (hpn : (a, oe) ∈ W.pn) (X : ExR W.K W.mg k.ts cls D) (hz : Zc (.ref D) none oe) (hf : ∃ vs, oe.data = .fields vs) : ∀ (ts : List ET) (es : List Expr), ET.oks k sc j ts es = true →
    PA W es (sideA j a (TXs W.K W.mg E0 (ET.evs cls ts))) ∧ allNS es
  | [], [], _ => ⟨PA.imp pa_nil fun σ H Q z => txs_nil σ H Q z.2, fun x hx => nomatch hx⟩
  | t :: ts, e :: es, q => by
    have q' : (notStar e && t.ok k sc j e && ET.oks k sc j ts es) = true := q
    obtain ⟨q', q3⟩ := and_ok q'
    obtain ⟨q1, q2⟩ := and_ok q'
    obtain ⟨h1, h2⟩ := ET.sounds h hpn X hz hf ts es q3
    refine ⟨PA.imp (pa_cons (ET.sound h hpn X hz hf t e q2) h1 (star_cons q1)) ?_, fun y hy => ?_⟩
    · rintro σ H Q ⟨hs, z⟩
      have z2 := txs_cons σ H Q z
      exact ⟨hs, TX.mono z2 fun v H' w => ⟨hs, w⟩⟩
    · rcases List.mem_cons.mp hy with z | z
      · subst z
        exact q1
      · exact h2 y z
  | [], _ :: _, q => by cases q
  | _ :: _, [], q => by cases q
/-- a suite's reading -/
def TSe (K : PySem.W.Frag) (m : Str → Option Value) (j : Nat) (a : Addr) (f : Env → Sto → Option (Env × Sto)) : TS := fun Dn σ H => σ[j]? = some (some (V.ref a)) ∧ ∃ c env ρ G μ, c.K = K ∧ c.mg = m ∧ Rel c ρ G μ H ∧ EnvOk c ρ G env σ ∧ match f env μ with
  | none => False
  | some (e, μ1) => ∀ ρ' G' H' σ', ρ <+: ρ' → Same G G' → Rel c ρ' G' μ1 H' → EnvOk c ρ' G' e σ' → σ'[j]? = some (some (V.ref a)) → Dn.nx σ' H'
theorem SE.sound (h : SuOk k sc fn W) (hpn : (a, oe) ∈ W.pn) (X : ExR W.K W.mg k.ts cls D) (hz : Zc (.ref D) none oe) (hf : ∃ vs, oe.data = .fields vs) (t : SE) (s : Stmt) (q : t.ok k sc fn j s = true) :
    PS W s (TSe W.K W.mg j a fun env μ => t.ev cls j env μ) := by
  unfold SE.ok at q
  split at q
  · rename_i i ts y yp es lp pos
    obtain ⟨q, q3⟩ := and_ok q
    obtain ⟨q1, q2⟩ := and_ok q
    obtain ⟨l1, l2⟩ := su_loc h q2
    obtain ⟨h1, h2⟩ := ET.sounds h hpn X hz hf ts es q3
    refine PS.imp (ps_set (i := i) (by rw [h.hN]; exact h.nd) (by rw [h.hN]; exact of_decide_eq_true q1) l1 (pe_lst h1) (swap_none rfl) l2) ?_
    rintro Dn σ H ⟨hs, c, env, ρ, G, μ, hK, hm, re, eo, hq⟩
    refine ⟨hs, ?_⟩
    have eV : SE.ev cls j env μ (.lst i ts) = if i = j then none else match (rb (ET.evs cls ts env μ) (dLst true) : R Lv.D) with
      | some (.ok (d, μ1)) => some (env.set i (some d), μ1)
      | _ => none := rfl
    simp only [eV] at hq
    by_cases hij : i = j
    · rw [if_pos hij] at hq
      exact hq.elim
    rw [if_neg hij] at hq
    cases e2 : (rb (ET.evs cls ts env μ) (dLst true) : R Lv.D) with
    | none =>
      rw [e2] at hq
      exact hq.elim
    | some r =>
      cases r with
      | error x =>
        rw [e2] at hq
        exact hq.elim
      | ok p =>
        obtain ⟨d, μ1⟩ := p
        rw [e2] at hq
        have key : TX W.K W.mg E0 (fun env μ => rb (ET.evs cls ts env μ) (dLst true)) σ H (fun x H1 => Dn.nx (σ.set i (some x)) H1) := by
          refine ⟨c, env, ρ, G, μ, hK, hm, re, eo, ?_⟩
          show Fin c E0 ρ G (rb (ET.evs cls ts env μ) (dLst true)) _
          rw [e2]
          intro ρ' G' H' p e3 r v hv
          refine hq ρ' G' H' _ p e3 r ((eo.up p e3).set (by rw [← hK] at hv; exact hv)) ?_
          rw [List.getElem?_set_ne hij]
          exact hs
        exact tx_lst true σ H _ key
  · rename_i i t y yp a' ap e p pos
    obtain ⟨q, q6⟩ := and_ok q
    obtain ⟨q, q5⟩ := and_ok q
    obtain ⟨q, q4⟩ := and_ok q
    obtain ⟨q, q3⟩ := and_ok q
    obtain ⟨q1, q2⟩ := and_ok q
    obtain ⟨m1, m2, m3⟩ := nm_ok q5
    obtain ⟨h1, h2⟩ := ET.sounds h hpn X hz hf [t] [e] q6
    have q1' := of_decide_eq_true q1
    have hx : PE W (.Name y yp) (TX W.K W.mg E0 (fVar i)) := PE.imp (pe_var (by rw [h.hN]; exact of_decide_eq_true q3) (su_vis h q4) m1 m2) (tx_var i)
    have hsl : Slot "list" a' Mth.append.id := by
      rw [← q1']
      exact Mth.append.slot
    refine PS.imp (ps_expr (pe_bm PySem.F.plainAttrs_list hsl Mth.append.ty Mth.append.mt hx h1 (base_ok rfl) (few_ok h2 (by rw [List.length_singleton]; decide)) q2 (star_cons (h2 _ List.mem_cons_self)) (star_any fun x hx => h2 x (List.mem_cons_of_mem _ hx))) (swap_none rfl)) ?_
    rintro Dn σ H ⟨hs, c, env, ρ, G, μ, hK, hm, re, eo, hq⟩
    have eV : SE.ev cls j env μ (.app i t) = if i = j then none else match fMth .append (fVar i) (ET.evs cls [t]) env μ with
      | some (.ok (_, μ1)) => some (env, μ1)
      | _ => none := rfl
    simp only [eV] at hq
    by_cases hij : i = j
    · rw [if_pos hij] at hq
      exact hq.elim
    rw [if_neg hij] at hq
    cases e2 : fMth .append (fVar i) (ET.evs cls [t]) env μ with
    | none =>
      rw [e2] at hq
      exact hq.elim
    | some r =>
      cases r with
      | error x =>
        rw [e2] at hq
        exact hq.elim
      | ok p =>
        obtain ⟨d, μ1⟩ := p
        rw [e2] at hq
        have key : TX W.K W.mg E0 (fMth .append (fVar i) (ET.evs cls [t])) σ H (fun x H1 => Dn.nx σ H1) := by
          refine ⟨c, env, ρ, G, μ, hK, hm, re, eo, ?_⟩
          rw [e2]
          intro ρ' G' H' p e3 r v hv
          exact hq ρ' G' H' _ p e3 r (eo.up p e3) hs
        have z := tx_mth σ H _ key
        exact TX.mono z fun v H' w => ⟨w.1, hs, w.2⟩
  · rename_i i t y yp e pos
    obtain ⟨q, q4⟩ := and_ok q
    obtain ⟨q, q3⟩ := and_ok q
    obtain ⟨q1, q2⟩ := and_ok q
    obtain ⟨l1, l2⟩ := su_loc h q2
    have h1 := ET.sound h hpn X hz hf t e q4
    refine PS.imp (ps_set (i := i) (by rw [h.hN]; exact h.nd) (by rw [h.hN]; exact of_decide_eq_true q1) l1 h1 (swap_none q3) l2) ?_
    rintro Dn σ H ⟨hs, c, env, ρ, G, μ, hK, hm, re, eo, hq⟩
    refine ⟨hs, ?_⟩
    have eV : SE.ev cls j env μ (.set i t) = if i = j then none else match t.b cls env with
      | some b => some (env.set i (some (.bl b)), μ)
      | none => none := rfl
    simp only [eV] at hq
    by_cases hij : i = j
    · rw [if_pos hij] at hq
      exact hq.elim
    rw [if_neg hij] at hq
    cases e2 : t.b cls env with
    | none =>
      rw [e2] at hq
      exact hq.elim
    | some b =>
      rw [e2] at hq
      refine ⟨c, env, ρ, G, μ, hK, hm, re, eo, ?_⟩
      have e3' : t.ev cls env μ = some (Except.ok (Lv.D.bl b, μ)) := by
        unfold ET.ev
        rw [e2]
        rfl
      rw [e3']
      intro ρ' G' H' p e3 r v hv
      refine hq ρ' G' H' _ p e3 r ((eo.up p e3).set (by rw [← hK] at hv; exact hv)) ?_
      rw [List.getElem?_set_ne hij]
      exact hs
  · rename_i i t y yp z zp e bp pos
    obtain ⟨q, q6⟩ := and_ok q
    obtain ⟨q, q5⟩ := and_ok q
    obtain ⟨q, q4⟩ := and_ok q
    obtain ⟨q, q3⟩ := and_ok q
    obtain ⟨q1, q2⟩ := and_ok q
    obtain ⟨l1, l2⟩ := su_loc h q2
    obtain ⟨m1, m2, m3⟩ := nm_ok q5
    have h1 := ET.sound h hpn X hz hf t e q6
    have hx : PE W (.Name z zp) (TX W.K W.mg E0 (fVar i)) := PE.imp (pe_var (by rw [h.hN]; exact of_decide_eq_true q3) (su_vis h q4) m1 m2) (tx_var i)
    have ho : PE W (.BoolOp .Or [.Name z zp, e] bp) (sideT j a (TX W.K W.mg E0 (fOr (fVar i) (t.ev cls)))) := by
      refine PE.imp (pe_or hx (pe_one h1)) ?_
      rintro σ H Q ⟨hs, w⟩
      refine TX.mono (tx_or σ H Q w) fun x H1 w => ?_
      obtain ⟨c, e1, w⟩ := w
      refine ⟨c, e1, ?_⟩
      cases c with
      | true => exact w
      | false => exact ⟨hs, w⟩
    refine PS.imp (ps_set (i := i) (by rw [h.hN]; exact h.nd) (by rw [h.hN]; exact of_decide_eq_true q1) l1 ho (swap_none rfl) l2) ?_
    rintro Dn σ H ⟨hs, c, env, ρ, G, μ, hK, hm, re, eo, hq⟩
    refine ⟨hs, ?_⟩
    have eV : SE.ev cls j env μ (.orr i t) = if i = j then none else match env[i]?, t.b cls env with
      | some (some (.bl a)), some b => some (env.set i (some (.bl (a || b))), μ)
      | _, _ => none := rfl
    simp only [eV] at hq
    by_cases hij : i = j
    · rw [if_pos hij] at hq
      exact hq.elim
    rw [if_neg hij] at hq
    cases e1 : env[i]? with
    | none =>
      rw [e1] at hq
      exact hq.elim
    | some o =>
      rw [e1] at hq
      cases o with
      | none => exact hq.elim
      | some d =>
        cases d with
        | bl av =>
          cases e2 : t.b cls env with
          | none =>
            rw [e2] at hq
            exact hq.elim
          | some b =>
            rw [e2] at hq
            refine ⟨c, env, ρ, G, μ, hK, hm, re, eo, ?_⟩
            have e3' : fOr (fVar i) (t.ev cls) env μ = some (Except.ok (Lv.D.bl (av || b), μ)) := by
              unfold fOr fVar ET.ev
              rw [e1, e2]
              cases av <;> rfl
            rw [e3']
            intro ρ' G' H' p e3 r v hv
            refine hq ρ' G' H' _ p e3 r ((eo.up p e3).set (by rw [← hK] at hv; exact hv)) ?_
            rw [List.getElem?_set_ne hij]
            exact hs
        | _ => exact hq.elim
  · rename_i i ts y yp z zp es lp bp pos
    obtain ⟨q, q6⟩ := and_ok q
    obtain ⟨q, q5⟩ := and_ok q
    obtain ⟨q, q4⟩ := and_ok q
    obtain ⟨q, q3⟩ := and_ok q
    obtain ⟨q1, q2⟩ := and_ok q
    obtain ⟨l1, l2⟩ := su_loc h q2
    obtain ⟨m1, m2, m3⟩ := nm_ok q5
    obtain ⟨h1, h2⟩ := ET.sounds h hpn X hz hf ts es q6
    have hx : PE W (.Name z zp) (TX W.K W.mg E0 (fVar i)) := PE.imp (pe_var (by rw [h.hN]; exact of_decide_eq_true q3) (su_vis h q4) m1 m2) (tx_var i)
    have ho : PE W (.BinOp (.Name z zp) .Add (.List es lp) bp) (tOp (rAddA W.K) (TX W.K W.mg E0 (fVar i)) (tLst (sideA j a (TXs W.K W.mg E0 (ET.evs cls ts))))) := pe_op op_addA hx (pe_lst h1)
    refine PS.imp (ps_set (i := i) (by rw [h.hN]; exact h.nd) (by rw [h.hN]; exact of_decide_eq_true q1) l1 ho (swap_none rfl) l2) ?_
    rintro Dn σ H ⟨hs, c, env, ρ, G, μ, hK, hm, re, eo, hq⟩
    have eV : SE.ev cls j env μ (.addL i ts) = if i = j then none else match fBin (dAdd true) (fVar i) (fun env μ => rb (ET.evs cls ts env μ) (dLst false)) env μ with
      | some (.ok (d, μ1)) => some (env.set i (some d), μ1)
      | _ => none := rfl
    simp only [eV] at hq
    by_cases hij : i = j
    · rw [if_pos hij] at hq
      exact hq.elim
    rw [if_neg hij] at hq
    cases e2 : fBin (dAdd true) (fVar i) (fun env μ => rb (ET.evs cls ts env μ) (dLst false)) env μ with
    | none =>
      rw [e2] at hq
      exact hq.elim
    | some r =>
      cases r with
      | error x =>
        rw [e2] at hq
        exact hq.elim
      | ok p =>
        obtain ⟨d, μ1⟩ := p
        rw [e2] at hq
        have key : TX W.K W.mg E0 (fBin (dAdd true) (fVar i) (fun env μ => rb (ET.evs cls ts env μ) (dLst false))) σ H (fun x H1 => Dn.nx (σ.set i (some x)) H1) := by
          refine ⟨c, env, ρ, G, μ, hK, hm, re, eo, ?_⟩
          rw [e2]
          intro ρ' G' H' p e3 r v hv
          have hs2 : (σ.set i (some v))[j]? = some (some (V.ref a)) := by
            rw [List.getElem?_set_ne hij]
            exact hs
          exact hq ρ' G' H' _ p e3 r ((eo.up p e3).set (by rw [← hK] at hv; exact hv)) hs2
        have z := tx_bin (E := E0) (add_ok true) σ H _ key
        show TX W.K W.mg E0 (fVar i) σ H _
        refine TX.mono z fun x H1 w => ?_
        exact ⟨hs, tx_lst false σ H1 _ w⟩
  · cases q
theorem SE.sounds (h : SuOk k sc fn W) (hpn : (a, oe) ∈ W.pn) (X : ExR W.K W.mg k.ts cls D) (hz : Zc (.ref D) none oe) (hf : ∃ vs, oe.data = .fields vs) : ∀ (ts : List SE) (st : List Stmt), SE.oks k sc fn j ts st = true →
    PSs W st (TSe W.K W.mg j a fun env μ => SE.evs cls j ts env μ)
  | [], [], _ => PSs.imp pss_nil fun Dn σ H z => by
    obtain ⟨hs, c, env, ρ, G, μ, hK, hm, re, eo, hq⟩ := z
    exact hq ρ G H σ (List.prefix_refl _) (Same.refl _) re eo hs
  | t :: ts, s :: st, q => by
    obtain ⟨q1, q2⟩ := and_ok (show (t.ok k sc fn j s && SE.oks k sc fn j ts st) = true from q)
    refine PSs.imp (pss_cons (SE.sound h hpn X hz hf t s q1) (SE.sounds h hpn X hz hf ts st q2)) ?_
    rintro Dn σ H ⟨hs, c, env, ρ, G, μ, hK, hm, re, eo, hq⟩
    refine ⟨hs, c, env, ρ, G, μ, hK, hm, re, eo, ?_⟩
    have hq' : match (match t.ev cls j env μ with
      | some (e, m) => SE.evs cls j ts e m
      | none => none) with
      | none => False
      | some (e, μ1) => ∀ ρ' G' H' σ', ρ <+: ρ' → Same G G' → Rel c ρ' G' μ1 H' → EnvOk c ρ' G' e σ' → σ'[j]? = some (some (V.ref a)) → Dn.nx σ' H' := hq
    cases e1 : t.ev cls j env μ with
    | none =>
      rw [e1] at hq'
      exact hq'.elim
    | some p =>
      obtain ⟨e, μ1⟩ := p
      rw [e1] at hq'
      simp only [e1]
      intro ρ' G' H' σ' p1 e3 r eo' hs'
      refine ⟨hs', c, e, ρ', G', μ1, hK, hm, r, eo', ?_⟩
      simp only at hq'
      cases e4 : SE.evs cls j ts e μ1 with
      | none =>
        rw [e4] at hq'
        exact hq'.elim
      | some pp =>
        obtain ⟨e5, μ5⟩ := pp
        rw [e4] at hq'
        simp only [e4]
        exact fun ρ2 G2 H2 σ2 p2 s2 r2 eo2 hs2 => hq' ρ2 G2 H2 σ2 (p1.trans p2) (e3.trans s2) r2 eo2 hs2
  | [], _ :: _, q => by cases q
  | _ :: _, [], q => by cases q
/-! ### what is guarded -/
def tbK (c : Ct) (ρ : List Addr) (G : Hp) (env : Env) (σ : L2.St) (W0 : WX) (Dn : Ends) (r : R Env) : Prop := match r with
  | none => False
  | some (.ok (e, μ1)) => ∀ ρ' G' H' σ', ρ <+: ρ' → Same G G' → Rel c ρ' G' μ1 H' → EnvOk c ρ' G' e σ' → Dn.nx σ' H'
  | some (.error (x, μ1)) => ∀ ρ' G' H' cl da, ρ <+: ρ' → Same G G' → Rel c ρ' G' μ1 H' → ErrOk c.mg x cl da G' → W0 cl da σ H'
def TBx (K : PySem.W.Frag) (m : Str → Option Value) (W0 : WX) (f : Env → Sto → R Env) : TS := fun Dn σ H => ∃ c env ρ G μ, c.K = K ∧ c.mg = m ∧ Rel c ρ G μ H ∧ EnvOk c ρ G env σ ∧ tbK c ρ G env σ W0 Dn (f env μ)
theorem noErr_some {α : Type} {r : R α} {x : Except (Exn × Sto) (α × Sto)} (h : noErr r = some x) : ∃ p, x = .ok p ∧ r = some (.ok p) := by
  cases r with
  | none => cases h
  | some e =>
    cases e with
    | error y => cases h
    | ok p => exact ⟨p, (Option.some.inj h).symm, rfl⟩
theorem tbK.up {c : Ct} {ρ ρ' : List Addr} {G G' : Hp} {env : Env} {σ : L2.St} {W0 : WX} {Dn : Ends} {r : R Env} (p : ρ <+: ρ') (e : Same G G') (h : tbK c ρ G env σ W0 Dn r) : tbK c ρ' G' env σ W0 Dn r := by
  match r, h with
  | some (.ok (a, μ)), h => exact fun ρ1 G1 H1 σ1 p1 e1 => h ρ1 G1 H1 σ1 (p.trans p1) (e.trans e1)
  | some (.error (x, μ)), h => exact fun ρ1 G1 H1 cl da p1 e1 => h ρ1 G1 H1 cl da (p.trans p1) (e.trans e1)
/-- a call that may raise: the reading by its arguments -/
theorem tb_call {K : PySem.W.Frag} {m : Str → Option Value} {W0 : WX} {F : Fn} {fz : Bool} {dn : Nat} {fs : FEs} {k2 : Env → Lv.D → Sto → R Env} {Dn : Ends} {σ : L2.St} {H : Hp} {T : VK}
    (h : TBx K m W0 (fun env μ => rb (noErr (fs env μ)) fun ds μ1 => rb (dCall F dn fz ds μ1) (k2 env)) Dn σ H)
    (step : ∀ (c : Ct) env ρ G μ d v H', c.K = K → c.mg = m → Rel c ρ G μ H' → EnvOk c ρ G env σ → Rep c.K c.B ρ G d v → tbK c ρ G env σ W0 Dn (k2 env d μ) → T v H') :
    tCallSD (F.sp K m) (List.replicate dn .non) (WE W0) (TXs K m E0 fs) σ H T := by
  obtain ⟨c, env, ρ, G, μ, hK, hm, re, eo, h⟩ := h
  subst hK hm
  simp only at h
  have hx : ∃ ds μ1, fs env μ = some (.ok (ds, μ1)) := by
    cases e : noErr (fs env μ) with
    | none =>
      rw [e] at h
      exact h.elim
    | some x =>
      obtain ⟨p, _, e2⟩ := noErr_some e
      exact ⟨p.1, p.2, e2⟩
  obtain ⟨ds, μ1, e1⟩ := hx
  rw [e1] at h
  refine ⟨c, env, ρ, G, μ, rfl, rfl, re, eo, ?_⟩
  rw [e1]
  intro ρ1 G1 H1 p1 s1 r1 vs hv
  have h1 : tbK c ρ1 G1 env σ W0 Dn (rb (dCall F dn fz ds μ1) (k2 env)) := tbK.up p1 s1 h
  have eo1 := eo.up p1 s1
  unfold dCall at h1
  cases e2 : lendA μ1 F.bo (ds ++ List.replicate dn .non) with
  | none =>
    rw [e2] at h1
    exact h1.elim
  | some es =>
    rw [e2] at h1
    simp only at h1
    by_cases hl : es.length = F.ps.length
    · rw [if_pos hl] at h1
      have hr := lendA_ok r1 _ _ _ _ e2 (hv.append (nons dn))
      refine ⟨by rw [← hr.length]; exact hl, .inl ⟨G1, es, r1.gh, r1.tp, hr, ?_⟩⟩
      cases e3 : F.run es with
      | none =>
        rw [e3] at h1
        exact h1.elim
      | some rr =>
        rw [e3] at h1
        cases rr with
        | ok p =>
          obtain ⟨d, μ'⟩ := p
          intro v ρ2 G2 H2 s r2 q
          have h2 : tbK c ρ1 G1 env σ W0 Dn (rb (give fz d μ' μ1) (k2 env)) := h1
          have hF : Fin c (fun _ _ _ => True) ρ1 G1 (give fz d μ' μ1) (fun e ρ' G' μ2 H' => (ρ1 <+: ρ' ∧ Same G1 G' ∧ Rel c ρ' G' μ2 H') ∧ tbK c ρ' G' env σ W0 Dn (k2 env e μ2)) := by
            cases e4 : give fz d μ' μ1 with
            | none =>
              rw [e4] at h2
              exact h2.elim
            | some x =>
              rw [e4] at h2
              cases x with
              | error y => exact fun _ _ _ _ _ _ _ _ _ => trivial
              | ok p => exact fun ρ3 G3 H3 p3 s3 r3 => ⟨⟨p3, s3, r3⟩, tbK.up p3 s3 h2⟩
          exact give_ok (α := Unit) (P := T) r1 s r2 q hF fun e ρ3 G3 μ3 H3 q3 q4 => step c env ρ3 G3 μ3 e v H3 rfl rfl q4.1.2.2 (eo1.up q4.1.1 q4.1.2.1) q3 q4.2
        | error x =>
          exact fun G' H' cls da a q => h1 ρ1 G' H' cls da (List.prefix_refl _) a.gg (r1.after a) q
    · rw [if_neg hl] at h1
      exact h1.elim
/-- .. in the caller's own store -/
theorem tb_useS {K : PySem.W.Frag} {m : Str → Option Value} {W0 : WX} {F : Fn} {dn : Nat} {c : Ct} {env : Env} {ρ : List Addr} {G H : Hp} {μ : Sto} {ds : List Lv.D} {vs : List V} {k2 : Env → Lv.D → Sto → R Env} {Dn : Ends} {σ : L2.St} {T : VK} (hK : c.K = K) (hm : c.mg = m) (r : Rel c ρ G μ H) (eo : EnvOk c ρ G env σ) (hv : Reps K c.B ρ G ds vs)
    (h : tbK c ρ G env σ W0 Dn (rb (dCallS F dn ds μ) (k2 env)))
    (step : ∀ (c : Ct) env ρ G μ d v H', c.K = K → c.mg = m → Rel c ρ G μ H' → EnvOk c ρ G env σ → Rep c.K c.B ρ G d v → tbK c ρ G env σ W0 Dn (k2 env d μ) → T v H') : F.sp K m (vs ++ List.replicate dn .non) H T (WE W0 σ) := by
  refine callS_use (E := WE W0 σ) hK hm r hv ?_
  cases e : dCallS F dn ds μ with
  | none =>
    rw [e] at h
    exact h.elim
  | some x =>
    rw [e] at h
    cases x with
    | error p => exact h
    | ok p =>
      obtain ⟨d, μ2⟩ := p
      exact fun ρ' G' H' p s r' v hv => step c env ρ' G' μ2 d v H' hK hm r' (eo.up p s) (by rw [hK]; exact hv) (tbK.up p s h)
theorem tb_callS {K : PySem.W.Frag} {m : Str → Option Value} {W0 : WX} {F : Fn} {dn : Nat} {fs : FEs} {k2 : Env → Lv.D → Sto → R Env} {Dn : Ends} {σ : L2.St} {H : Hp} {T : VK}
    (h : TBx K m W0 (fun env μ => rb (noErr (fs env μ)) fun ds μ1 => rb (dCallS F dn ds μ1) (k2 env)) Dn σ H)
    (step : ∀ (c : Ct) env ρ G μ d v H', c.K = K → c.mg = m → Rel c ρ G μ H' → EnvOk c ρ G env σ → Rep c.K c.B ρ G d v → tbK c ρ G env σ W0 Dn (k2 env d μ) → T v H') :
    tCallSD (F.sp K m) (List.replicate dn .non) (WE W0) (TXs K m E0 fs) σ H T := by
  obtain ⟨c, env, ρ, G, μ, hK, hm, re, eo, h⟩ := h
  simp only at h
  have hx : ∃ ds μ1, fs env μ = some (.ok (ds, μ1)) := by
    cases e : noErr (fs env μ) with
    | none =>
      rw [e] at h
      exact h.elim
    | some x =>
      obtain ⟨p, _, e2⟩ := noErr_some e
      exact ⟨p.1, p.2, e2⟩
  obtain ⟨ds, μ1, e1⟩ := hx
  rw [e1] at h
  refine ⟨c, env, ρ, G, μ, hK, hm, re, eo, ?_⟩
  rw [e1]
  intro ρ1 G1 H1 p1 s1 r1 vs hv
  exact tb_useS hK hm r1 (eo.up p1 s1) hv (tbK.up p1 s1 h) step
/-- a method's call, what is raised wished for at the slots -/
def tMethPD (X : Cx) (CX : CXT) (m : Str) (E : L2.St → XK) (ta : TE) (t : TA) : TE := fun σ H Q => ta σ H fun x H1 => ∃ (a C dx : Addr) (fs : List (Str × V)) (k : Nat) (f : Addr) (fd : FuncData) (ps : List Str) (sp : Sp) (dvs : List V) (ds : List Value), x = .ref a ∧ H1 a = some (.ins C dx fs) ∧ Cls X.K C ∧ Meth X.K C m f ∧
  FnOk X.prog X.w X.K X.mg X.base CX k f fd ps sp ∧ Room k X.A ∧ Binds X.K fd ps ds ∧ Vals dvs ds ∧ fs.lookup m = none ∧ t σ H1 fun vs H2 => sp (x :: (vs ++ dvs)) H2 Q (E σ)
theorem pe_methPD {X : Cx} {CX : CXT} {E : L2.St → XK} {m : Str} {pos apos : Pos} {e o : Expr} {es : List Expr} {ta : TE} {t : TA} {pl : Sem Bool} (he : PE X o ta) (hx : ∀ σ, PassesAt CX X σ (E σ)) (ha : PA X (e :: es) t)
    (hst : starEach (e :: es) X.env = (false, eval e X.env) :: starEach es X.env) (hpl : (backTo pos (starEach es X.env)).any (·.1) = false)
    (ht : eval (.Call (.Attribute o m apos) (e :: es) [] pos) X.env = (do
      let ov ← eval o X.env
      standAt apos.atName
      let (f, first) ← holding [ov] (getMethod ov m pl)
      callWith pos f first (backTo pos (starEach (e :: es) X.env)) (backToKw pos (keywordEach [] X.env)))) :
    PE X (.Call (.Attribute o m apos) (e :: es) [] pos) (tMethPD X CX m E ta t) := by
  refine ⟨fun pins s σ H Q I h => ?_⟩
  refine PySem.W.methodCall_KW (pl := pl) (thn (he.run pins s σ H _ I h) fun u s1 ⟨x, H1, I1, rx, a, C, dx, fs, k, f, fd, ps, sp, dvs, ds, ex, ea, c, hm, F, hr, hb, hd, l, q⟩ => ?_) ht
  subst ex
  obtain rfl : u = Value.ref a := rx
  refine getmeth_ok I1 ea c hm l ?_
  refine PySem.W.callWith_K (first := [.ref a]) (h₀ := X.base) I.ok.mod.kin hm.kp (thn (ha.run pos pins s1 σ H1 _ I1 q) fun us s2 ⟨vs, H2, I2, r, q2⟩ => ⟨I2.kIn, ?_⟩) hst hpl
  exact run_fnSD (us := .ref a :: us) (vs := .ref a :: vs) F hr hb hd (hx σ) I2 (.cons rfl r) q2
theorem callOk_sound {W0 : WX} {f dn : Nat} {xs : List X} {e : Expr} (hn : CxOk k sc fn lv (L2.CX W.prog W.w) E0 W) (tk : Takes W W0) (q : callOk k sc fn f dn xs e = true) :
    ∃ F, k.Γ.lookup f = some F ∧ PE W e (tCallSD (F.sp W.K W.mg) (List.replicate dn .non) (WE W0) (TXs W.K W.mg E0 (X.evs k.Γ xs))) ∧ notComp e = true := by
  obtain ⟨t, e1, q⟩ := optB_ok q
  obtain ⟨q0, p, rfl⟩ := asCall_eq e1
  obtain ⟨q, q4⟩ := and_ok q
  obtain ⟨q, q3⟩ := and_ok q
  obtain ⟨q1, q2⟩ := and_ok q
  obtain ⟨F, e2, q5⟩ := optB_ok q1
  obtain ⟨q5, q7⟩ := and_ok q5
  obtain ⟨q5, q6⟩ := and_ok q5
  obtain ⟨n1, n2, n3⟩ := nm_ok q3
  obtain ⟨fa, fd, w1, w2, w3, w4⟩ := hn.fns f F (lookup_mem e2) (List.isEmpty_iff.mp q7)
  obtain ⟨hs, hns⟩ := X.sounds xs sc fn E0 W _ hn q4
  rw [of_decide_eq_true q5] at w1
  have hd : Vals (List.replicate dn .non) (List.replicate dn .none) := vals_non dn
  exact ⟨F, e2, pe_callSD (E := WE W0) (p := q0) (pos := p) w4 hn.room (gl_ok hn q2) w1 w2 (w3 dn (of_decide_eq_true q6)) hd (fun σ => passAt tk σ) hs n1 (star_cons (hns _ List.mem_cons_self)) (star_any fun x hx => hns x (List.mem_cons_of_mem _ hx)), rfl⟩
theorem asExpr1_eq {st : List Stmt} {e : Expr} (h : asExpr1 st = some e) : ∃ p, st = [.Expr e p] := by
  unfold asExpr1 at h
  split at h
  · cases h
    exact ⟨_, rfl⟩
  · cases h
theorem asSet1_eq {st : List Stmt} {t : Str × Pos × Expr × Pos} (h : asSet1 st = some t) : st = [.Assign [.Name t.1 t.2.1] t.2.2.1 t.2.2.2] := by
  unfold asSet1 at h
  split at h
  · cases h
    rfl
  · cases h
theorem asIf1_eq {st : List Stmt} {t : Expr × List Stmt × List Stmt} (h : asIf1 st = some t) : ∃ p, st = [.If t.1 t.2.1 t.2.2 p] := by
  unfold asIf1 at h
  split at h
  · cases h
    exact ⟨_, rfl⟩
  · cases h
theorem tbK.ok {c : Ct} {ρ : List Addr} {G H : Hp} {env e : Env} {σ : L2.St} {W0 : WX} {Dn : Ends} {μ : Sto} (r : Rel c ρ G μ H) (eo : EnvOk c ρ G e σ) {σ' : L2.St} (h : ∀ ρ' G' H' σ', ρ <+: ρ' → Same G G' → Rel c ρ' G' μ H' → EnvOk c ρ' G' e σ' → Dn.nx σ' H') : Dn.nx σ H := h ρ G H σ (List.prefix_refl _) (Same.refl _) r eo
def tPre (t : TA) : List Int → TA
  | [] => t
  | i :: r => tCons (tC (.int i)) (tPre t r)
theorem preL_eq {pre : List Int} {es : List Expr} {e : Expr} (h : preL pre es = some e) {X : Cx} {te : TE} (he : PE X e te) (hns : notStar e = true) : PA X es (tPre (tCons te tNil) pre) ∧ allNS es := by
  induction pre generalizing es with
  | nil =>
    cases es with
    | nil => cases h
    | cons a r =>
      cases r with
      | nil =>
        cases h
        exact ⟨pa_cons he pa_nil (star_cons hns), allNS_cons hns allNS_nil⟩
      | cons _ _ => cases h
  | cons i pre ih =>
    unfold preL at h
    split at h
    · rename_i e1
      cases e1
    · rename_i i0 r0 z j p es0 e1
      cases e1
      split at h
      · rename_i hz
        subst hz
        obtain ⟨h1, h2⟩ := ih h
        exact ⟨pa_cons pe_int h1 (star_cons rfl), allNS_cons rfl h2⟩
      · cases h
    · cases h
theorem tPre_to {t : TA} {σ : L2.St} : ∀ {pre : List Int} {H : Hp} {Q : List V → Hp → Prop}, t σ H (fun vs H1 => Q (pre.map V.int ++ vs) H1) → tPre t pre σ H Q
  | [], _, _, h => h
  | i :: r, H, Q, h => tPre_to (pre := r) (Q := fun vs H1 => Q (.int i :: vs) H1) h
theorem TB.sound {W0 : WX} (hn : CxOk k sc fn lv (L2.CX W.prog W.w) E0 W) (tk : Takes W W0) : ∀ (b : TB) (st : List Stmt), b.ok k sc fn st = true → PSs W st (TBx W.K W.mg W0 (b.ev k.Γ))
  | .setL i pre f dn fz xs, st, q => by
    obtain ⟨t, e1, q⟩ := optB_ok q
    have := asSet1_eq e1
    subst this
    obtain ⟨q, q3⟩ := and_ok q
    obtain ⟨q1, q2⟩ := and_ok q
    obtain ⟨l1, l2⟩ := loc_ok hn q2
    obtain ⟨es, e3, q3⟩ := optB_ok q3
    obtain ⟨lp, e4⟩ := asList_eq e3
    obtain ⟨e, e5, q3⟩ := optB_ok q3
    obtain ⟨F, e2, hp, nc⟩ := callOk_sound hn tk q3
    have hse : notStar e = true := by
      unfold callOk at q3
      obtain ⟨u, e6, _⟩ := optB_ok q3
      obtain ⟨_, _, rfl⟩ := asCall_eq e6
      rfl
    obtain ⟨hA, hns⟩ := preL_eq e5 hp hse
    rw [e4]
    refine PSs.imp (pss_one (ps_set (i := i) (by rw [hn.hN]; exact hn.nd) (by rw [hn.hN]; exact of_decide_eq_true q1) l1 (pe_lst (pos := lp) hA) (swap_none rfl) l2)) ?_
    intro Dn σ H z
    have hf : fnth k.Γ f dn fz = dCall F dn fz := by
      funext ds μ
      unfold fnth
      rw [e2]
    refine tPre_to ?_
    refine tb_call (W0 := W0) (Dn := Dn) (fz := fz) (k2 := fun env d μ2 => rb (noErr (dLst true (pre.map Lv.D.int ++ [d]) μ2)) fun l μ3 => Lv.ok (env.set i (some l)) μ3) ?_ ?_
    · have z' : TBx W.K W.mg W0 (fun env μ => rb (noErr (X.evs k.Γ xs env μ)) fun ds μ1 => rb (fnth k.Γ f dn fz ds μ1) fun d μ2 => rb (noErr (dLst true (pre.map Lv.D.int ++ [d]) μ2)) fun l μ3 => Lv.ok (env.set i (some l)) μ3) Dn σ H := z
      rw [hf] at z'
      exact z'
    · intro c env ρ G μ d v H' hK hm re eo hv hq
      unfold dLst at hq
      by_cases hl : (pre.map Lv.D.int ++ [d]).length ≤ LIM
      · rw [if_pos hl] at hq
        have hvs : Reps c.K c.B ρ G (pre.map Lv.D.int ++ [d]) (pre.map V.int ++ [v]) := Reps.append Reps.ints (.one hv)
        refine ⟨lim_size (by rw [← hvs.length]; exact hl), fun p hp => ?_⟩
        refine alloc_use (E := E0) (lv := true) (Q := fun v H3 => Dn.nx (σ.set i (some v)) H3) rfl re hvs hp ?_
        intro ρ3 G3 H3 p3 s3 r3 v3 hv3
        exact hq ρ3 G3 H3 _ p3 s3 r3 ((eo.up p3 s3).set hv3)
      · rw [if_neg hl] at hq
        exact hq.elim
  | .call f dn xs, st, q => by
    obtain ⟨e, e1, q⟩ := optB_ok q
    obtain ⟨p, rfl⟩ := asExpr1_eq e1
    obtain ⟨F, e2, hp, nc⟩ := callOk_sound hn tk q
    refine PSs.imp (pss_one (ps_expr hp (swap_none nc))) ?_
    intro Dn σ H z
    have hf : fnth k.Γ f dn true = dCall F dn true := by
      funext ds μ
      unfold fnth
      rw [e2]
    refine tb_call (fz := true) (W0 := W0) (Dn := Dn) (k2 := fun env _ μ2 => Lv.ok env μ2) ?_ ?_
    · have z' : TBx W.K W.mg W0 (fun env μ => rb (noErr (X.evs k.Γ xs env μ)) fun ds μ1 => rb (fnth k.Γ f dn true ds μ1) fun _ μ2 => Lv.ok env μ2) Dn σ H := z
      rw [hf] at z'
      exact z'
    · intro c env ρ G μ d v H' hK hm re eo hv hq
      exact hq ρ G H' σ (List.prefix_refl _) (Same.refl _) re eo
  | .set i f dn xs, st, q => by
    obtain ⟨t, e1, q⟩ := optB_ok q
    have := asSet1_eq e1
    subst this
    obtain ⟨q, q3⟩ := and_ok q
    obtain ⟨q1, q2⟩ := and_ok q
    obtain ⟨l1, l2⟩ := loc_ok hn q2
    obtain ⟨F, e2, hp, nc⟩ := callOk_sound hn tk q3
    refine PSs.imp (pss_one (ps_set (i := i) (by rw [hn.hN]; exact hn.nd) (by rw [hn.hN]; exact of_decide_eq_true q1) l1 hp (swap_none nc) l2)) ?_
    intro Dn σ H z
    have hf : fnth k.Γ f dn true = dCall F dn true := by
      funext ds μ
      unfold fnth
      rw [e2]
    refine tb_call (fz := true) (W0 := W0) (Dn := Dn) (k2 := fun env d μ2 => Lv.ok (env.set i (some d)) μ2) ?_ ?_
    · have z' : TBx W.K W.mg W0 (fun env μ => rb (noErr (X.evs k.Γ xs env μ)) fun ds μ1 => rb (fnth k.Γ f dn true ds μ1) fun d μ2 => Lv.ok (env.set i (some d)) μ2) Dn σ H := z
      rw [hf] at z'
      exact z'
    · intro c env ρ G μ d v H' hK hm re eo hv hq
      exact hq ρ G H' _ (List.prefix_refl _) (Same.refl _) re (eo.set hv)
  | .ife cc a b, st, q => by
    obtain ⟨u, e1, q⟩ := optB_ok q
    obtain ⟨p, rfl⟩ := asIf1_eq e1
    obtain ⟨q, q3⟩ := and_ok q
    obtain ⟨q1, q2⟩ := and_ok q
    refine PSs.imp (pss_one (ps_if (X.sound cc sc fn E0 W _ hn q1).2 (TB.sound hn tk a _ q2) (TB.sound hn tk b _ q3))) ?_
    rintro Dn σ H ⟨c, env, ρ, G, μ, hK, hm, re, eo, hq⟩
    have hq' : tbK c ρ G env σ W0 Dn (rb (noErr (cc.ev k.Γ env μ)) fun d μ1 => match d with
      | .bl true => a.ev k.Γ env μ1
      | .bl false => b.ev k.Γ env μ1
      | _ => none) := hq
    refine ⟨c, env, ρ, G, μ, hK, hm, re, eo, ?_⟩
    cases e2 : cc.ev k.Γ env μ with
    | none =>
      rw [e2] at hq'
      exact hq'.elim
    | some x =>
      cases x with
      | error y =>
        rw [e2] at hq'
        exact hq'.elim
      | ok pr =>
        obtain ⟨d, μ1⟩ := pr
        rw [e2] at hq'
        intro ρ1 G1 H1 p1 s1 r1
        have h2 := tbK.up p1 s1 hq'
        have eo1 := eo.up p1 s1
        cases d with
        | bl t =>
          refine ⟨t, rfl, ?_⟩
          cases t with
          | true => exact ⟨c, env, ρ1, G1, μ1, hK, hm, r1, eo1, h2⟩
          | false => exact ⟨c, env, ρ1, G1, μ1, hK, hm, r1, eo1, h2⟩
        | _ => exact h2.elim
  | .callS f dn xs, st, q => by
    obtain ⟨e, e1, q⟩ := optB_ok q
    obtain ⟨p, rfl⟩ := asExpr1_eq e1
    obtain ⟨F, e2, hp, nc⟩ := callOk_sound hn tk q
    refine PSs.imp (pss_one (ps_expr hp (swap_none nc))) ?_
    intro Dn σ H z
    have hf : fnthS k.Γ f dn = dCallS F dn := by
      funext ds μ
      unfold fnthS
      rw [e2]
    refine tb_callS (W0 := W0) (Dn := Dn) (k2 := fun env _ μ2 => Lv.ok env μ2) ?_ ?_
    · have z' : TBx W.K W.mg W0 (fun env μ => rb (noErr (X.evs k.Γ xs env μ)) fun ds μ1 => rb (fnthS k.Γ f dn ds μ1) fun _ μ2 => Lv.ok env μ2) Dn σ H := z
      rw [hf] at z'
      exact z'
    · intro c env ρ G μ d v H' hK hm re eo hv hq
      exact hq ρ G H' σ (List.prefix_refl _) (Same.refl _) re eo
  | .callM m alts dn x xs, st, q => by
    obtain ⟨e, e1, z0⟩ := optB_ok q
    obtain ⟨p, rfl⟩ := asExpr1_eq e1
    obtain ⟨t, e2, z1⟩ := optB_ok z0
    have := asMth_eq e2
    subst this
    obtain ⟨q, q8⟩ := and_ok z1
    obtain ⟨q, q7⟩ := and_ok q
    obtain ⟨q, q6⟩ := and_ok q
    obtain ⟨q, q5⟩ := and_ok q
    obtain ⟨q, q4⟩ := and_ok q
    obtain ⟨q, q3⟩ := and_ok q
    obtain ⟨q1, q2⟩ := and_ok q
    have h1 := (X.sound x sc fn E0 W _ hn q5).1
    obtain ⟨hs, hns⟩ := X.sounds xs sc fn E0 W _ hn q6
    have hl := of_decide_eq_true q4
    obtain ⟨o, a, ap, es, pp⟩ := t
    have hm : m = a := of_decide_eq_true q1
    subst hm
    obtain ⟨y1, y2⟩ := and_ok q7
    have hne : m ≠ ("__init__" : Str) := fun z => by
      subst z
      exact absurd y1 (by decide +kernel)
    have hall : ∀ cls i, alts.lookup cls = some i → ∃ F, k.Γ.lookup i = some F ∧ F.name = m ∧ dn ≤ F.dn ∧ MtAt W.prog W.w W.K W.mg W.base (L2.CX W.prog W.w) lv F cls := fun cls i hi => by
      have z := List.all_eq_true.mp y2 _ (lookup_mem hi)
      obtain ⟨F, e2, z⟩ := optB_ok z
      obtain ⟨z, z3⟩ := and_ok z
      obtain ⟨z1, z2⟩ := and_ok z
      have z1' := of_decide_eq_true z1
      exact ⟨F, e2, z1', of_decide_eq_true z2, hn.mts i F (lookup_mem e2) (by rw [z1']; exact hne) cls (of_decide_eq_true z3)⟩
    cases es with
    | nil => cases q8
    | cons ea es =>
      have ht := ht_of (env := W.env) (o := o) (name := m) (apos := ap) (pos := pp) (args := ea :: es) (base_ok q2) (few_ok hns hl) q3
      have hp := pe_methPD (CX := L2.CX W.prog W.w) (E := WE W0) h1 (fun σ => passAt tk σ) hs (star_cons (hns _ List.mem_cons_self)) (star_any fun x hx => hns x (List.mem_cons_of_mem _ hx)) ht
      refine PSs.imp (pss_one (ps_expr hp (swap_none rfl))) ?_
      rintro Dn σ H ⟨c, env, ρ, G, μ, hK, hmg, re, eo, hq⟩
      have hq' : tbK c ρ G env σ W0 Dn (rb (noErr (x.ev k.Γ env μ)) fun d μ1 => match d with
        | .ref n => match μ1[n]? with
          | some (.ins cls _) => match alts.lookup cls with
            | some i => rb (noErr (X.evs k.Γ xs env μ1)) fun ds μ2 => rb (fnthS k.Γ i dn (.ref n :: ds) μ2) fun _ μ3 => Lv.ok env μ3
            | none => none
          | _ => none
        | _ => none) := hq
      cases e3 : x.ev k.Γ env μ with
      | none =>
        rw [e3] at hq'
        exact hq'.elim
      | some r =>
        cases r with
        | error y =>
          rw [e3] at hq'
          exact hq'.elim
        | ok pr =>
          obtain ⟨d, μ1⟩ := pr
          rw [e3] at hq'
          refine ⟨c, env, ρ, G, μ, hK, hmg, re, eo, ?_⟩
          rw [e3]
          intro ρ1 G1 H1 p1 s1 r1 v hv
          have h2 := tbK.up p1 s1 hq'
          have eo1 := eo.up p1 s1
          clear hq' hq
          cases d with
          | ref n =>
            dsimp only [Lv.noErr, Lv.rb] at h2
            cases e4 : μ1[n]? with
            | none =>
              rw [e4] at h2
              exact h2.elim
            | some cell =>
              rw [e4] at h2
              cases cell with
              | ins cls fds =>
                simp only at h2
                cases e5 : alts.lookup cls with
                | none =>
                  rw [e5] at h2
                  exact h2.elim
                | some i =>
                  rw [e5] at h2
                  obtain ⟨F, w1, w2, w3, C', f, fd, z1, z2, z3, z4, z5⟩ := hall cls i e5
                  obtain ⟨a, C0, dx, ws, e6, ha, hb, h0, k1, k2, k3, k4, k5⟩ := ins_ok r1 e4 (by rw [hK]; exact hv)
                  rw [hmg, z1] at k1
                  cases k1
                  subst w2
                  refine ⟨a, C', dx, ws, lv, f, fd, F.ps, F.sp W.K W.mg, List.replicate dn .non, List.replicate dn .none, e6, k4, z2, z3, z5, hn.room, z4 dn w3, vals_nons dn, ?_, ?_⟩
                  · refine lookup_out fun z => ?_
                    rw [k5.keys] at z
                    have n1 := k3 _ z
                    have n2 := z3.at_
                    rw [hK] at n1
                    rw [show PySem.W.findIn W.K (.ref C') F.name = some none from n1] at n2
                    cases n2
                  · subst e6
                    have hf : fnthS k.Γ i dn = dCallS F dn := by
                      funext ds μ
                      unfold fnthS
                      rw [w1]
                    simp only at h2
                    rw [hf] at h2
                    cases e7 : X.evs k.Γ xs env μ1 with
                    | none =>
                      rw [e7] at h2
                      exact h2.elim
                    | some rr =>
                      cases rr with
                      | error y =>
                        rw [e7] at h2
                        exact h2.elim
                      | ok pr =>
                        obtain ⟨ds, μ2⟩ := pr
                        rw [e7] at h2
                        refine ⟨c, env, ρ1, G1, μ1, hK, hmg, r1, eo1, ?_⟩
                        rw [e7]
                        intro ρ2 G2 H2 p2 s2 r2 vs hvs
                        have h3 := tbK.up p2 s2 h2
                        refine tb_useS (vs := V.ref a :: vs) (ds := .ref n :: ds) (W0 := W0) (k2 := fun env _ μ3 => Lv.ok env μ3) hK hmg r2 (eo1.up p2 s2) (.cons (hv.mono p2 s2) hvs) h3 ?_
                        intro c env ρ G μ d v H' hK hm re eo hv hq
                        exact hq ρ G H' σ (List.prefix_refl _) (Same.refl _) re eo
              | _ => exact h2.elim
          | _ => exact h2.elim
end
end Lv
set_option Elab.async false
set_option linter.all false
set_option maxRecDepth 100000
set_option autoImplicit false
/-! the check is sound: statements -/
namespace Lv
open PySem PySem.Spec PyProof.Rows L2
theorem asRet_eq {s : Stmt} {e : Expr} (h : asRet s = some e) : ∃ p, s = .Return (some e) p := by
  unfold asRet at h
  split at h
  · cases h
    exact ⟨_, rfl⟩
  · cases h
theorem isRetN_eq {s : Stmt} (h : isRetN s = true) : ∃ p, s = .Return none p := by
  unfold isRetN at h
  split at h
  · exact ⟨_, rfl⟩
  · cases h
theorem isPass_eq {s : Stmt} (h : isPass s = true) : ∃ p, s = .Pass p := by
  unfold isPass at h
  split at h
  · exact ⟨_, rfl⟩
  · cases h
theorem asExpr_eq {s : Stmt} {e : Expr} (h : asExpr s = some e) : ∃ p, s = .Expr e p := by
  unfold asExpr at h
  split at h
  · cases h
    exact ⟨_, rfl⟩
  · cases h
theorem asSet_eq {s : Stmt} {t : Str × Pos × Expr × Pos} (h : asSet s = some t) : s = .Assign [.Name t.1 t.2.1] t.2.2.1 t.2.2.2 := by
  unfold asSet at h
  split at h
  · cases h
    rfl
  · cases h
theorem asAsgT_eq {s : Stmt} {t : List Expr × Expr} (h : asAsgT s = some t) : ∃ n q p, s = .Assign [.Tuple t.1 n q] t.2 p := by
  unfold asAsgT at h
  split at h
  · cases h
    exact ⟨_, _, _, rfl⟩
  · cases h
theorem asSetIx_eq {s : Stmt} {t : Expr × Expr × Expr} (h : asSetIx s = some t) : ∃ q p, s = .Assign [.Subscript t.1 t.2.1 q] t.2.2 p := by
  unfold asSetIx at h
  split at h
  · cases h
    exact ⟨_, _, rfl⟩
  · cases h
theorem swap_attr {e o : Expr} {f : Str} {p : Pos} {n : Nat} {env : PySem.Env} : swapsWith e (some (.Attribute o f p)) n env = pure false := by
  cases e <;> rfl
theorem asSetAt_eq {s : Stmt} {t : Expr × Str × Expr} (h : asSetAt s = some t) : ∃ q p, s = .Assign [.Attribute t.1 t.2.1 q] t.2.2 p := by
  unfold asSetAt at h
  split at h
  · cases h
    exact ⟨_, _, rfl⟩
  · cases h
theorem asAug_eq {s : Stmt} {t : Str × Operator × Expr} (h : asAug s = some t) : ∃ q p, s = .AugAssign (.Name t.1 q) t.2.1 t.2.2 p := by
  unfold asAug at h
  split at h
  · cases h
    exact ⟨_, _, rfl⟩
  · cases h
theorem asAugIx_eq {s : Stmt} {t : Expr × Expr × Operator × Expr} (h : asAugIx s = some t) : ∃ q p, s = .AugAssign (.Subscript t.1 t.2.1 q) t.2.2.1 t.2.2.2 p := by
  unfold asAugIx at h
  split at h
  · cases h
    exact ⟨_, _, rfl⟩
  · cases h
theorem asIf_eq {s : Stmt} {t : Expr × List Stmt × List Stmt} (h : asIf s = some t) : ∃ p, s = .If t.1 t.2.1 t.2.2 p := by
  unfold asIf at h
  split at h
  · cases h
    exact ⟨_, rfl⟩
  · cases h
theorem asFor_eq {s : Stmt} {t : Expr × Expr × List Stmt} (h : asFor s = some t) : ∃ p, s = .For t.1 t.2.1 t.2.2 [] p := by
  unfold asFor at h
  split at h
  · cases h
    exact ⟨_, rfl⟩
  · cases h
theorem asForI_eq {s : Stmt} {t : Expr × Expr × Str × (Pos × Pos) × List Stmt} (h : asForI s = some t) : ∃ es q tp p, t.1 = .Tuple es q tp ∧ s = .For (.Tuple es q tp) (.Call (.Attribute t.2.1 t.2.2.1 t.2.2.2.1.1) [] [] t.2.2.2.1.2) t.2.2.2.2 [] p := by
  unfold asForI at h
  split at h
  · cases h
    exact ⟨_, _, _, _, rfl, rfl⟩
  · cases h
theorem asWh_eq {s : Stmt} {t : Expr × List Stmt} (h : asWh s = some t) : ∃ p, s = .While t.1 t.2 [] p := by
  unfold asWh at h
  split at h
  · cases h
    exact ⟨_, rfl⟩
  · cases h
theorem stores_none {es : List Expr} {n : Nat} {q : Pos} {e : Expr} {env : PySem.Env} (h : notTup e = true) : swappedStores [.Tuple es n q] e env = pure none := by
  cases e <;> first | rfl | cases h
theorem asPar_eq {s : Stmt} {t : (Str × Pos × Str × Pos) × Expr × Expr} (h : asPar s = some t) : ∃ kt pt k2 pt2 p, s = .Assign [.Tuple [.Name t.1.1 t.1.2.1, .Name t.1.2.2.1 t.1.2.2.2] kt pt] (.Tuple [t.2.1, t.2.2] k2 pt2) p := by
  unfold asPar at h
  split at h
  · cases h
    exact ⟨_, _, _, _, _, rfl⟩
  · cases h
theorem isFun_eq {sc : Scope} (h : isFun sc = true) : sc.kind = .function := by
  unfold isFun at h
  split at h
  · assumption
  · cases h
theorem isLoc_eq {sc : Scope} {x : Str} (h : isLoc sc x = true) : sc.names.lookup x = some .local := by
  unfold isLoc at h
  split at h
  · assumption
  · cases h
theorem star_no {e : Expr} (h : notStar e = true) : (match e with | .Starred .. => true | _ => false) = false := by
  cases e <;> first | rfl | cases h
theorem par_stores {env : PySem.Env} {x y : Str} {px py pt pt2 : Pos} {a b : Expr} {kt k2 : Nat} (hk : env.scope.kind = .function) (hx : env.scope.names.lookup x = some .local) (hy : env.scope.names.lookup y = some .local) (hl : (py.line == px.line) = true) (hn : (y == x) = false)
    (sa : notStar a = true) (sb : notStar b = true) (hf : (foldedForSure 8 a && foldedForSure 8 b) = false) (hc : (constantsAlone 8 a && constantsAlone 8 b) = false) :
    swappedStores [.Tuple [.Name x px, .Name y py] kt pt] (.Tuple [a, b] k2 pt2) env = pure (some [x, y]) := by
  have kx : env.kindOf x = some .local := hx
  have ky : env.kindOf y = some .local := hy
  have hb : env.blockKind = .function := by unfold Env.blockKind; rw [hk]; rfl
  have hd : [x, y].eraseDups = [x, y] := by simp [List.eraseDups_cons, List.filter_cons, hn, bne]
  have hpl : (Expr.Name x px).pos = px := rfl
  unfold swappedStores
  simp only [hb, List.length_cons, List.length_nil, List.any_cons, List.any_nil, star_no sa, star_no sb, List.head?_cons, Option.map_some, Option.getD_some, List.filterMap_cons, List.filterMap_nil, kx, ky, hpl, hl, beq_self_eq_true, Bool.and_self, if_true, hd, List.all_cons, List.all_nil, Bool.and_true, hf, hc]
  clear hf hc
  refine Eq.trans (if_neg (by decide)) (Eq.trans (if_neg ?_) rfl)
  intro hh
  rcases Bool.or_eq_true_iff.mp hh with hh | hh
  · cases a <;> first | (cases hh; done) | cases sa
  · rcases Bool.or_eq_true_iff.mp hh with hh | hh
    · cases b <;> first | (cases hh; done) | cases sb
    · cases hh
theorem asRaise_eq {s : Stmt} {t : Str × Str} (h : asRaise s = some t) : ∃ p jj p2 p3 p4, s = .Raise (some (.Call (.Name t.1 p) [.Constant (.str t.2) jj p2] [] p3)) none p4 := by
  unfold asRaise at h
  split at h
  · cases h
    exact ⟨_, _, _, _, _, rfl⟩
  · cases h
theorem asTry_eq {s : Stmt} {t : List Stmt × Str × Str × List Stmt} (h : asTry s = some t) : ∃ np ep pos, s = .Try t.1 [.ExceptHandler (some (.Name t.2.1 np)) (some t.2.2.1) t.2.2.2 ep] [] [] pos ∧ ∃ b0 r, t.2.2.2 = b0 :: r := by
  unfold asTry at h
  split at h
  · cases h
    exact ⟨_, _, _, rfl, _, _, rfl⟩
  · cases h
/-- a def's own frame -/
structure TopOk (CX : CXT) (W : Cx) : Prop where
  hs : W.stack = W.env :: W.outer
  hf : W.env.frame = some W.env.locals
  cx : CX = L2.CX W.prog W.w
section
variable {k : Ck} {lv : Nat} {CX : CXT}
/-- the suite's wish -/
def tsT (k : Ck) (W : Cx) (j : Nat) (suite : List SE) (a : Addr) (cls : Value) (d : Option Addr) : TS := fun Dn σ H => ∃ (x : Str) (D : Addr), cls = .ref D ∧ d = none ∧ ExR W.K W.mg k.ts x D ∧ TSe W.K W.mg j a (SE.evs x j suite) Dn σ H
theorem CV.uniq {mg : Str → Option Value} {c : Str} {u v : Value} (h : CV mg c u) (h' : CV mg c v) : u = v := by
  rcases h.1 with a | ⟨a, b⟩ <;> rcases h'.1 with a' | ⟨a', b'⟩
  · rw [a] at a'
    exact Option.some.inj a'
  · rw [a] at a'
    cases a'
  · rw [a] at a'
    cases a'
  · rw [b] at b'
    exact Option.some.inj b'
theorem try_sound {sc : Scope} {fn : Str → Bool} {E : XK} {W : Cx} {b : TB} {exc : Str} {j : Nat} {suite : List SE} (h : CxOk k sc fn lv CX E W) (T : TopOk CX W) (t : List Stmt × Str × Str × List Stmt) (np ep pos : Pos) (hne : ∃ b0 r, t.2.2.2 = b0 :: r) (q3 : t.2.1 = exc) (q4 : clsN k sc t.2.1 = true) (q5 : k.N[j]? = some t.2.2.1) (q6 : sc.names.lookup t.2.2.1 = some .local) (q7 : TB.ok k sc fn b t.1 = true) (q8 : SE.oks k sc fn j suite t.2.2.2 = true) :
    PS W (.Try t.1 [.ExceptHandler (some (.Name t.2.1 np)) (some t.2.2.1) t.2.2.2 ep] [] [] pos) (fun Dn σ H => ∃ c, CV W.mg exc c ∧ TBx W.K W.mg (wAs W.K c j (tsT k W j suite) (fun _ _ _ _ => False) Dn) (b.ev k.Γ) Dn σ H) := by
  subst q3
  obtain ⟨b0, r, hb⟩ := hne
  unfold clsN at q4
  obtain ⟨q, q43⟩ := and_ok q4
  obtain ⟨q41, q42⟩ := and_ok q
  obtain ⟨n1, n2, n3⟩ := nm_ok q42
  obtain ⟨cv, hcv⟩ := h.tc _ (of_decide_eq_true q43)
  have hnm : Names W t.2.1 cv := ⟨gl_ok h q41, n1, by
    rcases hcv.1 with a | ⟨a, b⟩
    · exact .inl a
    · exact .inr ⟨a, b, n3⟩⟩
  rw [hb] at q8 ⊢
  have cx := T.cx
  subst cx
  refine PS.imp (ps_try_as (i := j) (c := cv) (tb := fun W0 => TBx W.K W.mg W0 (b.ev k.Γ)) (ts := tsT k W j suite) (Wout := fun _ _ _ _ => False) T.hs T.hf (by rw [h.hN]; exact h.nd) (by rw [h.hN]; exact q5) (by
    show W.env.scope.names.lookup t.2.2.1 = some .local
    rw [h.hsc]
    exact q6) hnm takes0 (fun W0 pn xe tk po => ?_) (fun a oe cls d pn hz hf => ?_)) ?_
  · have h0 : CxOk k sc fn lv (L2.CX (W.tr pn xe).prog (W.tr pn xe).w) E0 (W.tr pn xe) :=
      { hN := h.hN, nd := h.nd, hsc := h.hsc, calm := h.calm, room := h.room, pass := h.p0 _, p0 := h.p0, own := po, fns := h.fns, mts := h.mts, mks := h.mks, ob := h.ob, prs := h.prs, xis := h.xis, lv1 := h.lv1, fks := h.fks, blt := h.blt, cst := h.cst, fnx := h.fnx, tk := takes0, ex := h.ex, exx := h.exx, tc := h.tc }
    exact TB.sound h0 tk b t.1 q7
  · have su : SuOk k sc fn (W.suite a ((a, oe) :: pn)) := { hN := h.hN, nd := h.nd, hsc := h.hsc, blt := h.blt, fnx := h.fnx, prs := fun g cs z => ⟨⟨(L2H.roomH_of (h.room.mono h.lv1)).dp, (L2H.roomH_of (h.room.mono h.lv1)).un⟩, h.prs g cs z⟩ }
    refine ⟨fun pins s σ H D I hw => ?_⟩
    obtain ⟨x, D0, rfl, rfl, X, z⟩ := hw
    exact (SE.sounds su List.mem_cons_self X hz hf suite _ q8).run pins s σ H D I z
  · rintro Dn σ H ⟨c, hc, z⟩
    have := hc.uniq hcv
    subst this
    exact z
theorem EnvOk.killset {c : Ct} {ρ : List Addr} {G : Hp} {env : Env} {σ : L2.St} {i : Nat} {o : Option V} (h : EnvOk c ρ G env σ) : EnvOk c ρ G (env.set i none) (σ.set i o) := by
  refine ⟨by rw [List.length_set, List.length_set]; exact h.1, fun j x q => ?_⟩
  by_cases hj : i = j
  · subst hj
    by_cases hl : i < env.length
    · rw [List.getElem?_set_self hl] at q
      cases q
    · rw [List.getElem?_eq_none (by rw [List.length_set]; omega)] at q
      cases q
  · rw [List.getElem?_set_ne hj] at q
    rw [List.getElem?_set_ne hj]
    exact h.2 j x q
theorem try_read {sc : Scope} {fn : Str → Bool} {E : XK} {W : Cx} {rs : List Str} {b : TB} {exc : Str} {j : Nat} {suite : List SE} (h : CxOk k sc fn lv CX E W) (hr : ∀ c ∈ rs, c ∈ k.rs) (hve : exc ≠ ("ValueError" : Str)) (hts : exc ∈ k.ts) (Dn : Ends) (σ : L2.St) (H : Hp) (z : TSx W.K W.mg E (sTry k.Γ rs b exc j suite) Dn σ H) :
    ∃ c, CV W.mg exc c ∧ TBx W.K W.mg (wAs W.K c j (tsT k W j suite) (fun _ _ _ _ => False) Dn) (b.ev k.Γ) Dn σ H := by
  obtain ⟨cv, hcv⟩ := h.tc _ hts
  obtain ⟨c, env, ρ, G, μ, hK, hm, re, eo, hq⟩ := z
  refine ⟨cv, hcv, c, env, ρ, G, μ, hK, hm, re, eo, ?_⟩
  unfold sTry at hq
  cases e1 : b.ev k.Γ env μ with
  | none =>
    rw [e1] at hq
    exact hq.elim
  | some x =>
    rw [e1] at hq
    cases x with
    | ok p =>
      obtain ⟨e, m⟩ := p
      exact fun ρ' G' H' σ' p1 s1 r1 eo1 => hq ρ' G' H' p1 s1 r1 σ' eo1
    | error p =>
      obtain ⟨x, m⟩ := p
      simp only at hq
      split at hq
      · rename_i hc
        obtain ⟨hc, c4⟩ := and_ok hc
        obtain ⟨hc, c3⟩ := and_ok hc
        obtain ⟨c1, c2⟩ := and_ok hc
        intro ρ' G' H' cl da p1 s1 r1 er
        obtain ⟨D, X⟩ := h.ex _ (hr _ (of_decide_eq_true c1))
        have ecl := er.cls
        rw [hm, X.g] at ecl
        have ecl := Option.some.inj ecl
        subst ecl
        have eda : da = none := by
          rcases er.dat with ⟨z, _⟩ | ⟨d0, z, hne, _⟩
          · exact z
          · exact absurd (by simpa using c3) hne
        subst eda
        obtain ⟨cv', k1, k2, k3⟩ := X.q exc hts
        have := k1.uniq hcv
        subst this
        have eo1 := eo.up p1 s1
        refine ⟨true, by rw [k3 hve, c2], fun _ a ha => ⟨x.cls, D, rfl, rfl, X, ?_, c, env.set j none, ρ', G', m, hK, hm, r1, eo1.killset, ?_⟩, fun z => nomatch z⟩
        · rw [List.getElem?_set_self (by rw [← eo.1]; exact of_decide_eq_true c4)]
        · cases e2 : SE.evs x.cls j suite (env.set j none) m with
          | none =>
            rw [e2] at hq
            exact hq.elim
          | some pp =>
            obtain ⟨e, m1⟩ := pp
            rw [e2] at hq
            intro ρ2 G2 H2 σ2 p2 s2 r2 eo2 _
            exact hq ρ2 G2 H2 (p1.trans p2) (s1.trans s2) r2 _ eo2.killset
      · exact hq.elim
/-! several clauses -/
theorem asRaiseE_eq {s : Stmt} {e : Expr} (h : asRaiseE s = some e) : ∃ p, s = .Raise (some e) none p := by
  unfold asRaiseE at h
  split at h
  · cases h
    exact ⟨_, rfl⟩
  · cases h
theorem asTryM_eq {s : Stmt} {t : List Stmt × List ExceptHandler} (h : asTryM s = some t) : ∃ p, s = .Try t.1 t.2 [] [] p := by
  unfold asTryM at h
  split at h
  · cases h
    exact ⟨_, rfl⟩
  · cases h
/-- a clause's wish -/
def tsM (k : Ck) (W : Cx) (exc : Str) (j i : Nat) (xs : List EX) (a : Addr) (cls : Value) (d : Option Addr) : TS := fun Dn σ H => ∃ (x : Exn) (D : Addr), cls = .ref D ∧ ExR W.K W.mg k.ts x.cls D ∧ i ≠ j ∧ TXse W.K W.mg j a d x.fs (EX.evs exc x xs) σ H fun vs H1 => vs.length ≤ sizeLine ∧ ∀ p, H1 p = none → Dn.nx (σ.set i (some (.ref p))) (upd H1 p (.lst vs))
/-- the clauses' list -/
inductive HsL (k : Ck) (W : Cx) : List (Str × Nat × Nat × List EX) → List (Value × Nat × (Addr → Value → Option Addr → TS)) → Prop
  | nil : HsL k W [] []
  | cons {exc : Str} {j i : Nat} {xs : List EX} {cv : Value} {r : List (Str × Nat × Nat × List EX)} {l : List (Value × Nat × (Addr → Value → Option Addr → TS))} : CV W.mg exc cv → exc ∈ k.ts → exc ≠ ("ValueError" : Str) → HsL k W r l → HsL k W ((exc, j, i, xs) :: r) ((cv, j, tsM k W exc j i xs) :: l)
theorem hs_sound {sc : Scope} {fn : Str → Bool} {E : XK} {W : Cx} (h : CxOk k sc fn lv CX E W) : ∀ (hs : List (Str × Nat × Nat × List EX)) (hds : List ExceptHandler), hsOk k sc fn hs hds = true → ∃ l, HdA W hds l ∧ HsL k W hs l
  | [], [], _ => ⟨[], .nil, .nil⟩
  | [], _ :: _, q => by cases q
  | _ :: _, [], q => by cases q
  | (exc, j, i, xs) :: r, hd :: hds, q => by
    unfold hsOk at q
    split at q
    · rename_i e1 e2
      cases e1
    · rename_i exc0 j0 i0 xs0 r0 c np n y yp es lp sp hp hds0 e1 e2
      cases e1
      cases e2
      obtain ⟨q, q9⟩ := and_ok q
      obtain ⟨q, q8⟩ := and_ok q
      obtain ⟨q, q7⟩ := and_ok q
      obtain ⟨q, q6⟩ := and_ok q
      obtain ⟨q, q5⟩ := and_ok q
      obtain ⟨q, q4⟩ := and_ok q
      obtain ⟨q, q3⟩ := and_ok q
      obtain ⟨q1, q2⟩ := and_ok q
      have ec := of_decide_eq_true q1
      subst ec
      obtain ⟨l, hl1, hl2⟩ := hs_sound h r hds q9
      unfold clsN at q3
      obtain ⟨q3, q33⟩ := and_ok q3
      obtain ⟨q31, q32⟩ := and_ok q3
      have hts := of_decide_eq_true q33
      obtain ⟨n1, n2, n3⟩ := nm_ok q32
      obtain ⟨cv, hcv⟩ := h.tc _ hts
      have hnm : Names W c cv := ⟨gl_ok h q31, n1, by
        rcases hcv.1 with a | ⟨a, b⟩
        · exact .inl a
        · exact .inr ⟨a, b, n3⟩⟩
      refine ⟨_, .cons hnm (by rw [h.hN]; exact of_decide_eq_true q4) (by
        show W.env.scope.names.lookup n = some .local
        rw [h.hsc]
        exact isLoc_eq q5) (fun a oe cl d pn hz hf => ?_) hl1, .cons hcv hts (by simpa using q2) hl2⟩
      have su : SuOk k sc fn (W.suite a ((a, oe) :: pn)) := { hN := h.hN, nd := h.nd, hsc := h.hsc, blt := h.blt, fnx := h.fnx, prs := fun g cs z => ⟨⟨(L2H.roomH_of (h.room.mono h.lv1)).dp, (L2H.roomH_of (h.room.mono h.lv1)).un⟩, h.prs g cs z⟩ }
      refine ⟨fun pins s σ H D I hw => ?_⟩
      obtain ⟨x, D0, rfl, X, hij, z⟩ := hw
      have hfld : ∀ f, (k.ob.xc.any fun p => decide (p.1 = c) && decide (f ∈ p.2)) = true → x.cls = c → XfC W.K D0 ∧ PySem.W.findIn W.K (.ref D0) f = some none := fun f hf2 hxc => by
        obtain ⟨p, hp, hp2⟩ := List.any_eq_true.mp hf2
        obtain ⟨p1, p2⟩ := and_ok hp2
        obtain ⟨⟨D, f0, fd, ps, k1, w1, w2, w3, w4, w5, w6, w7, w8, w9⟩, ne, few⟩ := h.xis _ _ hp
        have e1 := X.g
        rw [hxc, ← of_decide_eq_true p1, w1] at e1
        cases e1
        exact ⟨w3, w4 f (of_decide_eq_true p2)⟩
      obtain ⟨hA, hns⟩ := EX.sounds (j := j) (exc := c) su X hz hf hfld xs es q8
      obtain ⟨l1, l2⟩ := su_loc su q7
      have hps := ps_set (X := W.suite a ((a, oe) :: pn)) (i := i) (pos' := yp) (by rw [su.hN]; exact su.nd) (by rw [su.hN]; exact of_decide_eq_true q6) l1 (pe_lst (pos := lp) hA) (swap_none (l := sp.line) rfl) l2
      exact (pss_one hps).run pins s σ H D I (by
        refine (?_ : TXse W.K W.mg j a d x.fs (EX.evs c x xs) σ H _)
        obtain ⟨hs, cc, env, ρ, G, μ, hK, hm, hx, re, eo, hq⟩ := z
        exact ⟨hs, cc, env, ρ, G, μ, hK, hm, hx, re, eo, hq⟩)
    · cases q
theorem tryM_sound {sc : Scope} {fn : Str → Bool} {E : XK} {W : Cx} {rs : List Str} {b : TB} {hs : List (Str × Nat × Nat × List EX)} (h : CxOk k sc fn lv CX E W) (T : TopOk CX W) (body : List Stmt) (hds : List ExceptHandler) (pos : Pos) (hr : ∀ c ∈ rs, c ∈ k.rs) (q1 : TB.ok k sc fn b body = true) (q2 : hsOk k sc fn hs hds = true) (hne : hds ≠ []) :
    PS W (.Try body hds [] [] pos) (TSx W.K W.mg E (sTryM k.Γ rs b hs)) := by
  have cx := T.cx
  subst cx
  obtain ⟨l, hl1, hl2⟩ := hs_sound h hs hds q2
  cases hds with
  | nil => exact absurd rfl hne
  | cons h0 hds =>
  refine PS.imp (ps_try_asM (tb := fun W0 => TBx W.K W.mg W0 (b.ev k.Γ)) (Wout := fun _ _ _ _ => False) T.hs T.hf (by rw [h.hN]; exact h.nd) takes0 (fun W0 pn xe tk po => ?_) hl1) ?_
  · have hc : CxOk k sc fn lv (L2.CX (W.tr pn xe).prog (W.tr pn xe).w) E0 (W.tr pn xe) :=
      { hN := h.hN, nd := h.nd, hsc := h.hsc, calm := h.calm, room := h.room, pass := h.p0 _, p0 := h.p0, own := po, fns := h.fns, mts := h.mts, mks := h.mks, ob := h.ob, prs := h.prs, xis := h.xis, lv1 := h.lv1, fks := h.fks, blt := h.blt, cst := h.cst, fnx := h.fnx, tk := takes0, ex := h.ex, exx := h.exx, tc := h.tc }
    exact TB.sound hc tk b body q1
  rintro Dn σ H ⟨c, env, ρ, G, μ, hK, hm, re, eo, hq⟩
  refine ⟨c, env, ρ, G, μ, hK, hm, re, eo, ?_⟩
  unfold sTryM at hq
  cases e1 : b.ev k.Γ env μ with
  | none =>
    rw [e1] at hq
    exact hq.elim
  | some r =>
    rw [e1] at hq
    cases r with
    | ok p =>
      obtain ⟨e, m⟩ := p
      exact fun ρ' G' H' σ' p1 s1 r1 eo1 => hq ρ' G' H' p1 s1 r1 σ' eo1
    | error p =>
      obtain ⟨x, m⟩ := p
      simp only at hq
      split at hq
      case isFalse => exact hq.elim
      rename_i hc
      intro ρ' G' H' cl da p1 s1 r1 er
      obtain ⟨D, X⟩ := h.ex _ (hr _ (of_decide_eq_true hc))
      have ecl := er.cls
      rw [hm, X.g] at ecl
      have ecl := Option.some.inj ecl
      subst ecl
      have hdat := er.dat
      have eo1 := eo.up p1 s1
      clear e1 er q2 hl1 hne
      induction hl2 with
      | nil => exact hq.elim
      | @cons exc j i xs cv r l hcv hts hve hl ih =>
        unfold hndM at hq
        obtain ⟨cv', k1, k2, k3⟩ := X.q exc hts
        have := k1.uniq hcv
        subst this
        refine ⟨subE x.cls exc, k3 hve, fun hb a ha => ?_, fun hb => ?_⟩
        · rw [if_pos hb] at hq
          split at hq
          case isFalse => exact hq.elim
          rename_i hji
          refine ⟨x, D, rfl, X, hji.2, ?_, c, env.set j none, ρ', G', m, hK, hm, hdat, r1, eo1.killset, ?_⟩
          · rw [List.getElem?_set_self (by rw [← eo.1]; exact hji.1)]
          · cases e2 : EX.evs exc x xs (env.set j none) m with
            | none =>
              rw [e2] at hq
              exact hq.elim
            | some rr =>
              cases rr with
              | error y =>
                rw [e2] at hq
                exact hq.elim
              | ok pr =>
                obtain ⟨ds, m2⟩ := pr
                rw [e2] at hq
                have hq : Fin c E ρ G (match (dLst true ds m2 : R Lv.D) with
                  | some (.ok (d, m1)) => Lv.ok (.nx (((env.set j none).set i (some d)).set j none)) m1
                  | _ => none) (flQ c Dn) := hq
                intro ρ2 G2 H2 p2 s2 r2 vs hvs
                unfold dLst at hq
                by_cases hlen : ds.length ≤ LIM
                · rw [if_pos hlen] at hq
                  refine ⟨lim_size (by rw [← hvs.length]; exact hlen), fun p hp => ?_⟩
                  refine alloc_use (E := E) (lv := true) (Q := fun v H3 => Dn.nx ((((σ.set j (some (.ref a))).set i (some v))).set j none) H3) hK r2 hvs hp ?_
                  intro ρ3 G3 H3 p3 s3 r3 v hv
                  exact hq ρ3 G3 H3 ((p1.trans p2).trans p3) ((s1.trans s2).trans s3) r3 _ (((((eo1.up p2 s2).up p3 s3).killset (i := j) (o := some (.ref a))).set (by rw [hK]; exact hv)).killset)
                · rw [if_neg hlen] at hq
                  exact hq.elim
        · rw [if_neg (by rw [hb]; exact Bool.false_ne_true)] at hq
          exact ih hq
theorem set_comp {sc : Scope} {fn : Str → Bool} {E : XK} {W : Cx} {y : Str} {py spos : Pos} {l : Bool} {src : Src} {tg : Tg} {cond : List X} {elt : X} {own : List Nat} {e : Expr} {i : Nat} (h : CxOk k sc fn lv CX E W) (hi : k.N[i]? = some y) (hl : locb sc fn y = true) (hs : setOk sc y py e = true)
    (q : (X.comp l src tg cond elt own).ok k sc fn e = true) : PS W (.Assign [.Name y py] e spos) (tAsg (TX W.K W.mg E ((X.comp l src tg cond elt own).ev k.Γ)) (gName i)) := by
  have h0 := (X.sound _ sc fn E W e h q).1
  obtain ⟨t, e1, q⟩ := optB_ok q
  obtain ⟨p, rfl⟩ := asComp_eq e1
  obtain ⟨l1, l2⟩ := loc_ok h hl
  have hs' : (match sc.names.lookup y with
    | some .cell => true
    | some .local => (t.2.2.2.2.names.any fun (n, k) => n == y && (k == .local || k == .cell)) || (isFun sc && (py.line == p.line))
    | _ => false) = true := hs
  have plain : swapsWith (.ListComp t.1 [⟨t.2.1, t.2.2.1, t.2.2.2.1, 0⟩] t.2.2.2.2 p) (some (.Name y py)) spos.line W.env = pure false → PS W (.Assign [.Name y py] (.ListComp t.1 [⟨t.2.1, t.2.2.1, t.2.2.2.1, 0⟩] t.2.2.2.2 p) spos) (tAsg (TX W.K W.mg E ((X.comp l src tg cond elt own).ev k.Γ)) (gName i)) :=
    fun z => ps_set (by rw [h.hN]; exact h.nd) (by rw [h.hN]; exact hi) l1 h0 z l2
  have sw : swapsWith (.ListComp t.1 [⟨t.2.1, t.2.2.1, t.2.2.2.1, 0⟩] t.2.2.2.2 p) (some (.Name y py)) spos.line W.env = pure (W.env.blockKind == .function && W.env.kindOf y == some .local && py.line == p.line && !(t.2.2.2.2.names.any fun (n, k) => n == y && (k == .local || k == .cell))) := rfl
  split at hs'
  · rename_i hc
    refine plain ?_
    have : W.env.kindOf y = some .cell := by
      show W.env.scope.names.lookup y = _
      rw [h.hsc]
      exact hc
    rw [sw, this]
    show (pure (W.env.blockKind == .function && false && _ && _) : Sem Bool) = _
    rw [Bool.and_false, Bool.false_and, Bool.false_and]
  · rename_i hc
    by_cases hn : (t.2.2.2.2.names.any fun (n, k) => n == y && (k == .local || k == .cell)) = true
    · refine plain ?_
      rw [sw, hn]
      show (pure (_ && false) : Sem Bool) = _
      rw [Bool.and_false]
    · have hn' : (t.2.2.2.2.names.any fun (n, k) => n == y && (k == .local || k == .cell)) = false := by simpa using hn
      rw [hn', Bool.false_or, Bool.and_eq_true] at hs'
      have hk : W.env.scope.kind = .function := by
        rw [h.hsc]
        have := hs'.1
        unfold isFun at this
        split at this
        · assumption
        · cases this
      have hyl : W.env.scope.names.lookup y = some .local := by
        rw [h.hsc]
        exact hc
      obtain ⟨q, q7⟩ := and_ok q
      obtain ⟨q, q6⟩ := and_ok q
      obtain ⟨q, q5⟩ := and_ok q
      obtain ⟨q, q4⟩ := and_ok q
      obtain ⟨q, q3⟩ := and_ok q
      obtain ⟨q1, q2⟩ := and_ok q
      have hb : BlkOk W.N W.env.scope t.2.2.2.2 (own.map fun i => (k.N.getD i "", i)) := blkOk_by (by rw [h.hN, h.hsc]; exact q1)
      have ho : (own.map fun i => (k.N.getD i "", i)).map (·.2) = own := by
        rw [List.map_map]
        exact List.map_id' own
      have hown : ∀ i ∈ tg.slots, i ∈ own := fun i hi => by
        have := List.all_eq_true.mp q2 i hi
        simpa using this
      have hp := ps_setLc (i := i) (y := y) (py := py) (pos := p) (spos := spos) (elt := t.1) (tg := t.2.1) (iter := t.2.2.1) (ifs := t.2.2.2.1) (scope := t.2.2.2.2) (g := tg.g W.K) (tt := ttOf W.K W.mg (X.evo k.Γ cond)) (te := TX W.K W.mg E0 (elt.ev k.Γ)) h.calm (by rw [h.hN]; exact h.nd) (by rw [h.hN]; exact hi) hyl
        (sw_true hk hyl hs'.2 hn') (Src.sound src sc fn E W _ _ h q4) hb
        (fun s H C cl fp => tg_sound (blk_ok h t.2.2.2.2 s H C cl fp) tg _ q5)
        (fun s H C cl fp => X.soundc cond _ _ _ _ (blk_ok h t.2.2.2.2 s H C cl fp) q6)
        (fun s H C cl fp => (X.sound elt _ _ E0 _ _ (blk_ok h t.2.2.2.2 s H C cl fp) q7).1) (set_ok q3 W.env)
      rw [ho] at hp
      exact PS.imp hp fun D σ H z => tx_comp hown σ H _ z
  · cases hs'
mutual
theorem S.sound : ∀ (x : S) (sc : Scope) (fn : Str → Bool) (E : XK) (W : Cx) (s : Stmt), CxOk k sc fn lv CX E W → TopOk CX W → x.ok k sc fn s = true → PS W s (TSx W.K W.mg E (x.ev k.Γ))
  | .ret x, sc, fn, E, W, s, h, T, q => by
    obtain ⟨e, e1, q⟩ := optB_ok q
    obtain ⟨p, rfl⟩ := asRet_eq e1
    exact PS.imp (ps_ret (X.sound x sc fn E W e h q).1) ts_ret
  | .retN, sc, fn, E, W, s, h, T, q => by
    obtain ⟨p, rfl⟩ := isRetN_eq q
    exact PS.imp ps_retN ts_retN
  | .expr x, sc, fn, E, W, s, h, T, q => by
    obtain ⟨e, e1, q⟩ := optB_ok q
    obtain ⟨p, rfl⟩ := asExpr_eq e1
    obtain ⟨q1, q2⟩ := and_ok q
    exact PS.imp (ps_expr (X.sound x sc fn E W e h q2).1 (swap_none q1)) ts_drop
  | .set i x, sc, fn, E, W, s, h, T, q => by
    obtain ⟨t, e1, q⟩ := optB_ok q
    have := asSet_eq e1
    subst this
    obtain ⟨q, q4⟩ := and_ok q
    obtain ⟨q, q3⟩ := and_ok q
    obtain ⟨q1, q2⟩ := and_ok q
    obtain ⟨l1, l2⟩ := loc_ok h q2
    rcases Bool.or_eq_true_iff.mp q3 with q5 | q5
    · exact PS.imp (ps_set (by rw [h.hN]; exact h.nd) (by rw [h.hN]; exact of_decide_eq_true q1) l1 (X.sound x sc fn E W _ h q4).1 (swap_none q5) l2) (ts_asg (tg := .nm i))
    · obtain ⟨q5, q6⟩ := and_ok q5
      cases x with
      | comp l src tg cond elt own => exact PS.imp (set_comp h (of_decide_eq_true q1) q2 q6 q4) (ts_asg (tg := .nm i))
      | _ => cases q5
  | .asgL is x, sc, fn, E, W, s, h, T, q => by
    obtain ⟨t, e1, q⟩ := optB_ok q
    obtain ⟨n, q0, p, rfl⟩ := asAsgT_eq e1
    obtain ⟨q, q4⟩ := and_ok q
    obtain ⟨q, q3⟩ := and_ok q
    obtain ⟨q1, q2⟩ := and_ok q
    obtain ⟨h1, h2, h3⟩ := tgNames_ok h is _ q1
    have hg : PG W (.Tuple t.1 n q0) (gUnl W.K is.length (gs is)) := pg_unl h.calm h1 h2 h3
    exact PS.imp (ps_asg (X.sound x sc fn E W _ h q4).1 hg (by obtain ⟨a, b⟩ := t; cases b <;> first | rfl | cases q2) (stores_none q3)) ts_asgL
  | .asg is x, sc, fn, E, W, s, h, T, q => by
    obtain ⟨t, e1, q⟩ := optB_ok q
    obtain ⟨n, q0, p, rfl⟩ := asAsgT_eq e1
    obtain ⟨q, q4⟩ := and_ok q
    obtain ⟨q, q3⟩ := and_ok q
    obtain ⟨q1, q2⟩ := and_ok q
    obtain ⟨h1, h2, h3⟩ := tgNames_ok h is _ q1
    have hg : PG W (.Tuple t.1 n q0) ((Tg.tup is).g W.K) := pg_tup h.calm h1 h2 h3
    exact PS.imp (ps_asg (X.sound x sc fn E W _ h q4).1 hg (by obtain ⟨a, b⟩ := t; cases b <;> first | rfl | cases q2) (stores_none q3)) ts_asg
  | .par i j x y, sc, fn, E, W, s, h, T, q => by
    obtain ⟨t, e1, q⟩ := optB_ok q
    obtain ⟨kt, pt, k2, pt2, p, rfl⟩ := asPar_eq e1
    obtain ⟨q, q6⟩ := and_ok q
    obtain ⟨q, q5⟩ := and_ok q
    obtain ⟨q, q4⟩ := and_ok q
    obtain ⟨q, q3⟩ := and_ok q
    obtain ⟨q1, q2⟩ := and_ok q
    obtain ⟨q4, c9⟩ := and_ok q4
    obtain ⟨q4, c8⟩ := and_ok q4
    obtain ⟨q4, c7⟩ := and_ok q4
    obtain ⟨q4, c6⟩ := and_ok q4
    obtain ⟨q4, c5⟩ := and_ok q4
    obtain ⟨q4, c4⟩ := and_ok q4
    obtain ⟨q4, c3⟩ := and_ok q4
    obtain ⟨c1, c2⟩ := and_ok q4
    have hs : W.env.scope = sc := h.hsc
    have ha : PA W [t.2.1, t.2.2] (tCons (TX W.K W.mg E (x.ev k.Γ)) (tCons (TX W.K W.mg E (y.ev k.Γ)) tNil)) := pa_cons (X.sound x sc fn E W _ h q5).1 (pa_cons (X.sound y sc fn E W _ h q6).1 pa_nil (star_cons c7)) (star_cons c6)
    refine PS.imp (ps_par h.calm (by rw [h.hN]; exact h.nd) (by rw [h.hN]; exact of_decide_eq_true q1) (by rw [h.hN]; exact of_decide_eq_true q2) (of_decide_eq_true q3) (by rw [hs]; exact isLoc_eq c2) (by rw [hs]; exact isLoc_eq c3) ha
      (par_stores (by rw [hs]; exact isFun_eq c1) (by rw [hs]; exact isLoc_eq c2) (by rw [hs]; exact isLoc_eq c3) c4 (by rw [Bool.not_eq_true'] at c5; exact c5) c6 c7 (by rw [Bool.not_eq_true'] at c8; exact c8) (by rw [Bool.not_eq_true'] at c9; exact c9))) ts_par
  | .dset o i v, sc, fn, E, W, s, h, T, q => by
    obtain ⟨t, e1, q⟩ := optB_ok q
    obtain ⟨q0, p, rfl⟩ := asSetIx_eq e1
    obtain ⟨q, q4⟩ := and_ok q
    obtain ⟨q, q3⟩ := and_ok q
    obtain ⟨q1, q2⟩ := and_ok q
    have hsw : swapsWith t.2.2 (some (.Subscript t.1 t.2.1 q0)) p.line W.env = pure false := by
      obtain ⟨a, b, c⟩ := t
      cases c <;> rfl
    exact PS.imp (ps_dput (by have := h.room.units; omega) (X.sound o sc fn E W _ h q2).1 (X.sound i sc fn E W _ h q3).1 (X.sound v sc fn E W _ h q4).1 hsw) ts_dset
  | .setIx o i v, sc, fn, E, W, s, h, T, q => by
    obtain ⟨t, e1, q⟩ := optB_ok q
    obtain ⟨q0, p, rfl⟩ := asSetIx_eq e1
    obtain ⟨q, q4⟩ := and_ok q
    obtain ⟨q, q3⟩ := and_ok q
    obtain ⟨q1, q2⟩ := and_ok q
    have hg := pg_sub (pos := q0) (X.sound o sc fn E W _ h q2).1 (X.sound i sc fn E W _ h q3).1 set_list (fun v => by
      obtain ⟨a, b, c⟩ := t
      cases b <;> first | rfl | cases q1)
    have hsw : swapsWithSole [.Subscript t.1 t.2.1 q0] t.2.2 p.line W.env = pure false := by
      obtain ⟨a, b, c⟩ := t
      cases c <;> rfl
    exact PS.imp (ps_asg (X.sound v sc fn E W _ h q4).1 hg hsw) ts_setIx
  | .setAt cls f o v, sc, fn, E, W, s, h, T, q => by
    obtain ⟨t, e1, q⟩ := optB_ok q
    obtain ⟨q0, p, rfl⟩ := asSetAt_eq e1
    obtain ⟨q, q5⟩ := and_ok q
    obtain ⟨q, q4⟩ := and_ok q
    obtain ⟨q1, q2⟩ := and_ok q
    have := of_decide_eq_true q1
    subst this
    exact PS.imp (ps_fld (X.sound o sc fn E W _ h q4).1 (X.sound v sc fn E W _ h q5).1 swap_attr) (ts_setAt (h.ob.fl _ _ (of_decide_eq_true q2)))
  | .aug a i x, sc, fn, E, W, s, h, T, q => by
    obtain ⟨t, e1, q⟩ := optB_ok q
    obtain ⟨q0, p, rfl⟩ := asAug_eq e1
    obtain ⟨q, q4⟩ := and_ok q
    obtain ⟨q, q3⟩ := and_ok q
    obtain ⟨q1, q2⟩ := and_ok q
    obtain ⟨l1, l2⟩ := loc_ok h q2
    rw [← aoEq_ok q3]
    exact PS.imp (ps_aug (by rw [h.hN]; exact h.nd) (by rw [h.hN]; exact of_decide_eq_true q1) l1 (X.sound x sc fn E W _ h q4).1 a.ip l2) ts_aug
  | .augIx a o i x, sc, fn, E, W, s, h, T, q => by
    obtain ⟨t, e1, q⟩ := optB_ok q
    obtain ⟨q0, p, rfl⟩ := asAugIx_eq e1
    obtain ⟨q, q4⟩ := and_ok q
    obtain ⟨q, q3⟩ := and_ok q
    obtain ⟨q, q2⟩ := and_ok q
    obtain ⟨q1, q5⟩ := and_ok q
    obtain ⟨b, d, op, e⟩ := t
    have q1' := aoEq_ok q1
    subst q1'
    exact PS.imp (ps_augS (X.sound o sc fn E W _ h q2).1 (X.sound i sc fn E W _ h q3).1 get_list (X.sound x sc fn E W _ h q4).1 a.ip set_list (fun ov iv new => by cases d <;> first | rfl | cases q5)) ts_augIx
  | .ife c t f, sc, fn, E, W, s, h, T, q => by
    obtain ⟨u, e1, q⟩ := optB_ok q
    obtain ⟨p, rfl⟩ := asIf_eq e1
    obtain ⟨q, q3⟩ := and_ok q
    obtain ⟨q1, q2⟩ := and_ok q
    exact PS.imp (ps_if (X.sound c sc fn E W _ h q1).2 (S.sounds t sc fn E W _ h T q2) (S.sounds f sc fn E W _ h T q3)) ts_if
  | .for_ tg src body, sc, fn, E, W, s, h, T, q => by
    obtain ⟨u, e1, q⟩ := optB_ok q
    obtain ⟨p, rfl⟩ := asFor_eq e1
    obtain ⟨q, q4⟩ := and_ok q
    obtain ⟨q, q3⟩ := and_ok q
    obtain ⟨q1, q2⟩ := and_ok q
    exact PS.imp (ps_for h.own h.calm (Src.sound src sc fn E W _ _ h q3) (tg_sound h tg _ q2) (S.sounds body sc fn E W _ h T q4) (set_ok q1 W.env)) ts_for
  | .forI tg x body, sc, fn, E, W, s, h, T, q => by
    obtain ⟨u, e1, q⟩ := optB_ok q
    obtain ⟨es, kk, tp, p, e2, rfl⟩ := asForI_eq e1
    obtain ⟨q, q6⟩ := and_ok q
    obtain ⟨q, q5⟩ := and_ok q
    obtain ⟨q, q4⟩ := and_ok q
    obtain ⟨q, q3⟩ := and_ok q
    obtain ⟨q1, q2⟩ := and_ok q
    have n1 : u.2.2.1 = ("items" : Str) := of_decide_eq_true q1
    rw [n1]
    exact PS.imp (ps_lock (ps_for h.own h.calm (pi_itemsT (X.sound x sc fn E W _ h q5).1 (base_ok q2) q3) (tg_sound h tg _ q4) (S.sounds body sc fn E W _ h T q6) (set_ok rfl W.env))) ts_forI
  | .wh c body, sc, fn, E, W, s, h, T, q => by
    obtain ⟨u, e1, q⟩ := optB_ok q
    obtain ⟨p, rfl⟩ := asWh_eq e1
    obtain ⟨q1, q2⟩ := and_ok q
    exact PS.imp (ps_while h.own (X.sound c sc fn E W _ h q1).2 (S.sounds body sc fn E W _ h T q2)) ts_while
  | .pass, sc, fn, E, W, s, h, T, q => by
    obtain ⟨p, rfl⟩ := isPass_eq q
    exact PS.imp ps_pass ts_next
  | .kill is, sc, fn, E, W, s, h, T, q => by cases q
  | .raise cls, sc, fn, E, W, s, h, T, q => by
    obtain ⟨t, e1, q⟩ := optB_ok q
    obtain ⟨p, jj, p2, p3, p4, rfl⟩ := asRaise_eq e1
    obtain ⟨q, q4⟩ := and_ok q
    obtain ⟨q, q3⟩ := and_ok q
    obtain ⟨q1, q2⟩ := and_ok q
    obtain ⟨n1, n2, n3⟩ := nm_ok q3
    have q1' := of_decide_eq_true q1
    subst q1'
    obtain ⟨q4, q5⟩ := and_ok q4
    obtain ⟨D, X⟩ := h.ex _ (of_decide_eq_true q4)
    obtain ⟨D2, xg, xx⟩ := h.exx _ (of_decide_eq_true q4) (fun p hp => of_decide_eq_true (List.all_eq_true.mp q5 p hp))
    have eD : D2 = D := by
      have := X.g
      rw [xg] at this
      cases this
      rfl
    rw [eD] at xx
    refine PS.imp (ps_raise h.calm h.tk (pmk_own PySem.F.excBase_ValueError xx X.g X.k (raises_own X.b X.t) (gl_ok h q2) n1)) ?_
    rintro Dn σ H ⟨c, env, ρ, G, μ, hK, hm, re, eo, hq⟩
    exact hq ρ G H (.ref D) none (List.prefix_refl _) (Same.refl _) re ⟨by rw [hm]; exact X.g, .inl ⟨rfl, rfl⟩⟩
  | .tryE rs b exc j suite, sc, fn, E, W, s, h, T, q => by
    obtain ⟨t, e1, z⟩ := optB_ok q
    obtain ⟨np, ep, pos, rfl, hne⟩ := asTry_eq e1
    obtain ⟨q, q8⟩ := and_ok z
    obtain ⟨q, q7⟩ := and_ok q
    obtain ⟨q, q6⟩ := and_ok q
    obtain ⟨q, q5⟩ := and_ok q
    obtain ⟨q, q4⟩ := and_ok q
    obtain ⟨q, q3⟩ := and_ok q
    obtain ⟨q1, q2⟩ := and_ok q
    exact PS.imp (try_sound h T t np ep pos hne (of_decide_eq_true q3) q4 (of_decide_eq_true q5) (isLoc_eq q6) q7 q8) (try_read h (fun c hc => of_decide_eq_true (List.all_eq_true.mp q1 c hc)) (by simpa using q2) (by rw [← of_decide_eq_true q3]; unfold clsN at q4; exact of_decide_eq_true (and_ok q4).2))
  | .forK tg x body, sc, fn, E, W, s, h, T, q => by
    obtain ⟨u, e1, q⟩ := optB_ok q
    obtain ⟨p, rfl⟩ := asFor_eq e1
    obtain ⟨q, q4⟩ := and_ok q
    obtain ⟨q, q3⟩ := and_ok q
    obtain ⟨q1, q2⟩ := and_ok q
    exact PS.imp (ps_lock (ps_for h.own h.calm (pi_keys (X.sound x sc fn E W _ h q3).1) (tg_sound h tg _ q2) (S.sounds body sc fn E W _ h T q4) (set_ok q1 W.env))) ts_forK
  | .raiseF cls fns xs, sc, fn, E, W, s, h, T, q => by
    obtain ⟨e, e1, q⟩ := optB_ok q
    obtain ⟨pr, rfl⟩ := asRaiseE_eq e1
    obtain ⟨t, e2, q⟩ := optB_ok q
    obtain ⟨pn, pc, rfl⟩ := asCall_eq e2
    obtain ⟨q, q5⟩ := and_ok q
    obtain ⟨q, q4⟩ := and_ok q
    obtain ⟨q, q3⟩ := and_ok q
    obtain ⟨q1, q2⟩ := and_ok q
    obtain ⟨⟨D, f, fd, ps, k1, w1, w2, w3, w4, w5, w6, w7, w8, w9⟩, ne, few⟩ := h.xis _ _ (of_decide_eq_true q4)
    obtain ⟨n1, n2, n3⟩ := nm_ok q3
    obtain ⟨hs, hns⟩ := X.sounds xs sc fn E W _ h q5
    have ec : t.1 = cls := of_decide_eq_true q1
    exact PS.imp (ps_raise h.calm h.tk (pmk_oex (p := pn) (pos := pc) w2 w5 w6 w8 (h.room.mono w9) w7 .nil (h.p0 _) (gl_ok h q2) (by rw [ec]; exact w1) hs n1 (star_cons (hns _ List.mem_cons_self)) (star_any fun x hx => hns x (List.mem_cons_of_mem _ hx)))) (tx_raiseF w1 ne few)
  | .tryM rs b hs, sc, fn, E, W, s, h, T, q => by
    obtain ⟨t, e1, z⟩ := optB_ok q
    obtain ⟨pos, rfl⟩ := asTryM_eq e1
    obtain ⟨q, q4⟩ := and_ok z
    obtain ⟨q, q3⟩ := and_ok q
    obtain ⟨q1, q2⟩ := and_ok q
    exact tryM_sound h T t.1 t.2 pos (fun c hc => of_decide_eq_true (List.all_eq_true.mp q1 c hc)) q2 q3 (fun z => by rw [z] at q4; cases q4)
  | .never, sc, fn, E, W, s, h, T, q => PS.imp ps_never fun D σ H z => by
    obtain ⟨c, env, ρ, G, μ, hK, hm, re, eo, z⟩ := z
    exact z.elim
theorem S.sounds : ∀ (xs : List S) (sc : Scope) (fn : Str → Bool) (E : XK) (W : Cx) (st : List Stmt), CxOk k sc fn lv CX E W → TopOk CX W → S.oks k sc fn xs st = true → PSs W st (TSx W.K W.mg E (S.evs k.Γ xs))
  | [], sc, fn, E, W, st, h, T, q => by
    cases st with
    | nil => exact PSs.imp pss_nil ts_next
    | cons _ _ => cases q
  | x :: xs, sc, fn, E, W, st, h, T, q => by
    by_cases hk : ∃ is, x = .kill is
    · obtain ⟨is, rfl⟩ := hk
      exact PSs.imp (S.sounds xs sc fn E W st h T q) ts_kill
    · cases st with
      | nil =>
        exfalso
        cases x <;> first | cases q | exact hk ⟨_, rfl⟩
      | cons t u =>
        have q' : (x.ok k sc fn t && S.oks k sc fn xs u) = true := by
          cases x <;> first | exact q | exact absurd ⟨_, rfl⟩ hk
        obtain ⟨q1, q2⟩ := and_ok q'
        exact PSs.imp (pss_cons (S.sound x sc fn E W t h T q1) (S.sounds xs sc fn E W u h T q2)) ts_seq
end
end
end Lv
set_option Elab.async false
set_option linter.all false
set_option maxRecDepth 100000
set_option autoImplicit false
/-! a def by its check -/
namespace Lv
open PySem PySem.Spec PyProof.Rows L2
theorem start_ok {c : Ct} {ρ : List Addr} {G : Hp} {N : List Str} : ∀ {ds : List D} {vs : List V}, Reps c.K c.B ρ G ds vs → EnvOk c ρ G (ds.map some ++ List.replicate (N.length - ds.length) none) (L2.start N vs) := by
  intro ds vs h
  have hl := h.length
  refine ⟨by unfold L2.start; rw [List.length_append, List.length_append, List.length_map, List.length_map, List.length_replicate, List.length_replicate, hl], fun i d e => ?_⟩
  by_cases hi : i < ds.length
  · rw [List.getElem?_append_left (by rw [List.length_map]; exact hi), List.getElem?_map] at e
    cases e1 : ds[i]? with
    | none =>
      rw [e1] at e
      cases e
    | some x =>
      rw [e1] at e
      cases e
      obtain ⟨v, q1, q2⟩ := h.get e1
      refine ⟨v, ?_, q2⟩
      unfold L2.start
      rw [List.getElem?_append_left (by rw [List.length_map, ← hl]; exact hi), List.getElem?_map, q1]
      rfl
  · rw [List.getElem?_append_right (by rw [List.length_map]; omega), List.getElem?_replicate] at e
    split at e <;> cases e
theorem Rel.none {c : Ct} {ρ : List Addr} {G H : Hp} {μ : Sto} (r : Rel c ρ G μ H) : Rel c [] G [] H :=
  ⟨r.gh, r.bh, r.ph, r.tp, r.g0, r.nw, fun a o q => ⟨(r.gp a o q).1, List.not_mem_nil, (r.gp a o q).2.2⟩, rfl, List.nodup_nil, fun n a x e => by simp at e⟩
section
variable {P : Program} {w : World} {K : PySem.W.Frag} {mg : Str → Option Value} {base : Heap}
theorem run_ts {Γ : List (Nat × Fn)} {N : List Str} {body : List S} {nme : Str} {ps : List Str} {bo : List Bool} {dn : Nat} {cs : List Str} {vs : List V} {H : Hp} {Q : VK} {E : XK} (h : Fn.sp K mg ⟨nme, ps, bo, dn, runDef Γ N body, cs, runDefS Γ N body⟩ vs H Q E) :
    TSx K mg E (S.evs Γ body) { nx := fun _ H' => Q .non H', rt := Q } (L2.start N vs) H := by
  obtain ⟨hl, h⟩ := h
  rcases h with h | h
  · obtain ⟨G, ds, gh, tp, hr, h⟩ := h
    refine ⟨⟨K, mg, H, G, fun _ => none, fun _ => none⟩, _, [], G, [], rfl, rfl, ⟨gh, Same.refl _, fun _ _ e => (nomatch e), tp, Same.refl _, fun a o e => .inl e, fun _ _ e => (nomatch e), rfl, List.nodup_nil, fun n a x e => by simp at e⟩, start_ok hr, ?_⟩
    have h' : match runDef Γ N body ds with
      | none => False
      | some (.ok (d, μ)) => ∀ v ρ G' H', Same G G' → Rel ⟨K, mg, H, G, fun _ => none, fun _ => none⟩ ρ G' μ H' → Rep K H ρ G' d v → Q v H'
      | some (.error x) => ∀ G' H' cls da, Aft G H G' H' → ErrOk mg x cls da G' → E cls da H' := h
    unfold runDef at h'
    cases e : S.evs Γ body (ds.map some ++ List.replicate (N.length - ds.length) none) [] with
    | none =>
      rw [e] at h'
      exact h'
    | some r =>
      rw [e] at h'
      cases r with
      | error p =>
        obtain ⟨x, μ'⟩ := p
        exact fun ρ' G' H' cls da _ s r' q => h' G' H' cls da (aft_of s r') q
      | ok p =>
        obtain ⟨fl, μ'⟩ := p
        cases fl with
        | nx env => exact fun ρ' G' H' _ s r' σ _ => h' .non [] G' H' s r'.none rfl
        | rt d =>
          have h2 : ∀ v ρ G' H', Same G G' → Rel ⟨K, mg, H, G, fun _ => none, fun _ => none⟩ ρ G' (if d.clean = true then [] else μ') H' → Rep K H ρ G' d v → Q v H' := h'
          by_cases hc : d.clean = true
          · rw [if_pos hc] at h2
            exact fun ρ' G' H' _ s r' v hv => h2 v [] G' H' s r'.none (Rep.clean d v hc hv)
          · rw [if_neg hc] at h2
            exact fun ρ' G' H' _ s r' v hv => h2 v ρ' G' H' s r' hv
  · obtain ⟨c, ρ, G, μ, ds, hK, hm, r, hr, h⟩ := h
    refine ⟨c, _, ρ, G, μ, hK, hm, r, start_ok (by rw [hK]; exact hr), ?_⟩
    have h' : Fin c E ρ G (runDefS Γ N body ds μ) fun d ρ' G' _ H' => ∀ v, Rep K c.B ρ' G' d v → Q v H' := h
    unfold runDefS at h'
    cases e : S.evs Γ body (ds.map some ++ List.replicate (N.length - ds.length) none) μ with
    | none =>
      rw [e] at h'
      exact h'.elim
    | some x =>
      rw [e] at h'
      cases x with
      | error p => exact h'
      | ok p =>
        obtain ⟨fl, μ'⟩ := p
        cases fl with
        | nx env => exact fun ρ' G' H' p s r' σ _ => h' ρ' G' H' p s r' .non rfl
        | rt d => exact fun ρ' G' H' p s r' v hv => h' ρ' G' H' p s r' v (by rw [← hK]; exact hv)
/-- what a law's defs rest on -/
structure TxtOk (P : Program) (w : World) (K : PySem.W.Frag) (mg : Str → Option Value) (base : Heap) (CX : CXT) (lv : Nat) (k : Ck) : Prop where
  fns : ∀ i F, (i, F) ∈ k.Γ → F.cs = [] → ∃ f fd, mg F.name = some (.ref f) ∧ PySem.W.keepIn K (.ref f) = true ∧ (∀ j, j ≤ F.dn → Binds K fd F.ps (List.replicate j .none)) ∧ FnOk P w K mg base CX lv f fd F.ps (F.sp K mg)
  mts : ∀ i F, (i, F) ∈ k.Γ → F.name ≠ ("__init__" : Str) → ∀ c ∈ F.cs, MtAt P w K mg base CX lv F c
  mks : ∀ i F, (i, F) ∈ k.Γ → F.name = ("__init__" : Str) → ∀ c ∈ F.cs, MkAt P w K mg base CX lv F c
  ob : ObOk K mg k.ob
  prs : ∀ g cs, (g, cs) ∈ k.ob.prd → PrOk P w K mg base k.ts g cs
  xis : ∀ cls fns, (cls, fns) ∈ k.ob.xc → XiAt P w K mg base CX lv cls fns
  lv1 : 1 ≤ lv
  fks : ∀ i F, (i, F) ∈ k.Γ → F.cs = [] → F.dn = 1 → F.ps.length = 2 → ∃ f fd, mg F.name = some (.ref f) ∧ PySem.W.keepIn K (.ref f) = true ∧ KBn K fd F.ps 1 (F.ps.drop 1) (fun us ws => us ++ ws) (fun vs zs => vs ++ zs) ∧ FnOk P w K mg base CX lv f fd F.ps (F.sp K mg)
  blt : ∀ b ∈ k.bs, mg b = none
  cst : ∀ x d, k.cs.lookup x = some d → ∃ u v, mg x = some u ∧ scv d = some v ∧ RelV v u
  ex : ∀ cls ∈ k.rs, ∃ D, ExR K mg k.ts cls D
  exx : ∀ cls ∈ k.rs, (∀ p ∈ k.ob.xc, p.1 ≠ cls) → ExPl K mg cls
  tc : ∀ c ∈ k.ts, ∃ cv, CV mg c cv
theorem TxtOk.nil {P : Program} {w : World} {K : PySem.W.Frag} {mg : Str → Option Value} {base : Heap} {CX : CXT} {lv : Nat} {N : List Str} {bs : List Str} {cs : List (Str × D)} {rs ts : List Str} {ob : Ob} (blt : ∀ b ∈ bs, mg b = none)
    (cst : ∀ x d, cs.lookup x = some d → ∃ u v, mg x = some u ∧ scv d = some v ∧ RelV v u) (ex : ∀ cls ∈ rs, ∃ D, ExR K mg ts cls D) (exx : ∀ cls ∈ rs, (∀ p ∈ ob.xc, p.1 ≠ cls) → ExPl K mg cls) (tc : ∀ c ∈ ts, ∃ cv, CV mg c cv) (hob : ObOk K mg ob) (hpr : ∀ g cs, (g, cs) ∈ ob.prd → PrOk P w K mg base ts g cs) (hxi : ∀ cls fns, (cls, fns) ∈ ob.xc → XiAt P w K mg base CX lv cls fns) (hlv : 1 ≤ lv) : TxtOk P w K mg base CX lv ⟨N, [], bs, cs, rs, ts, ob⟩ :=
  ⟨fun _ _ h => (nomatch h), fun _ _ h => (nomatch h), fun _ _ h => (nomatch h), hob, hpr, hxi, hlv, fun _ _ h => (nomatch h), blt, cst, ex, exx, tc⟩
/-- one def more -/
theorem TxtOk.consG {CX : CXT} {lv lv' : Nat} {N : List Str} {Γ : List (Nat × Fn)} {bs : List Str} {cs : List (Str × D)} {rs ts : List Str} {ob : Ob} {i : Nat} {F : Fn} (T : TxtOk P w K mg base CX lv ⟨N, Γ, bs, cs, rs, ts, ob⟩) (hlv : lv ≤ lv')
    (h1 : F.cs = [] → ∃ f fd, mg F.name = some (.ref f) ∧ PySem.W.keepIn K (.ref f) = true ∧ (∀ j, j ≤ F.dn → Binds K fd F.ps (List.replicate j .none)) ∧ FnOk P w K mg base CX lv' f fd F.ps (F.sp K mg))
    (h2 : F.name ≠ ("__init__" : Str) → ∀ c ∈ F.cs, MtAt P w K mg base CX lv' F c) (h3 : F.name = ("__init__" : Str) → ∀ c ∈ F.cs, MkAt P w K mg base CX lv' F c)
    (h4 : F.cs = [] → F.dn = 1 → F.ps.length = 2 → ∃ f fd, mg F.name = some (.ref f) ∧ PySem.W.keepIn K (.ref f) = true ∧ KBn K fd F.ps 1 (F.ps.drop 1) (fun us ws => us ++ ws) (fun vs zs => vs ++ zs) ∧ FnOk P w K mg base CX lv' f fd F.ps (F.sp K mg)) : TxtOk P w K mg base CX lv' ⟨N, (i, F) :: Γ, bs, cs, rs, ts, ob⟩ :=
  ⟨fun j X hx hc => by
    rcases List.mem_cons.mp hx with q | q
    · cases q
      exact h1 hc
    · obtain ⟨g, gd, w1, w2, w3, w4⟩ := T.fns j X q hc
      exact ⟨g, gd, w1, w2, w3, w4.mono hlv⟩, fun j X hx hn c hc => by
    rcases List.mem_cons.mp hx with q | q
    · cases q
      exact h2 hn c hc
    · exact (T.mts j X q hn c hc).mono hlv, fun j X hx hn c hc => by
    rcases List.mem_cons.mp hx with q | q
    · cases q
      exact h3 hn c hc
    · exact (T.mks j X q hn c hc).mono hlv, T.ob, T.prs, fun cls fns z => (T.xis cls fns z).mono hlv, Nat.le_trans T.lv1 hlv, fun j X hx hc z1 z2 => by
    rcases List.mem_cons.mp hx with q | q
    · cases q
      exact h4 hc z1 z2
    · obtain ⟨g, gd, w1, w2, w3, w4⟩ := T.fks j X q hc z1 z2
      exact ⟨g, gd, w1, w2, w3, w4.mono hlv⟩, T.blt, T.cst, T.ex, T.exx, T.tc⟩
theorem TxtOk.cons {CX : CXT} {lv : Nat} {N : List Str} {Γ : List (Nat × Fn)} {bs : List Str} {cs : List (Str × D)} {rs ts : List Str} {ob : Ob} {i : Nat} {F : Fn} {f : Addr} {fd : FuncData} (T : TxtOk P w K mg base CX lv ⟨N, Γ, bs, cs, rs, ts, ob⟩) (h1 : mg F.name = some (.ref f)) (h2 : PySem.W.keepIn K (.ref f) = true)
    (h3 : ∀ j, j ≤ F.dn → Binds K fd F.ps (List.replicate j .none)) (h4 : FnOk P w K mg base CX (lv + 1) f fd F.ps (F.sp K mg))
    (h5 : F.dn = 1 → F.ps.length = 2 → KBn K fd F.ps 1 (F.ps.drop 1) (fun us ws => us ++ ws) (fun vs zs => vs ++ zs) := by exact fun h => absurd h (by decide)) (h0 : F.cs = [] := by rfl) : TxtOk P w K mg base CX (lv + 1) ⟨N, (i, F) :: Γ, bs, cs, rs, ts, ob⟩ :=
  T.consG (Nat.le_succ lv) (fun _ => ⟨f, fd, h1, h2, h3, h4⟩) (fun _ c hc => by rw [h0] at hc; cases hc) (fun _ c hc => by rw [h0] at hc; cases hc) (fun _ z1 z2 => ⟨f, fd, h1, h2, h5 z1 z2, h4⟩)
theorem TxtOk.names {CX : CXT} {lv : Nat} {k : Ck} (T : TxtOk P w K mg base CX lv k) (N : List Str) : TxtOk P w K mg base CX lv ⟨N, k.Γ, k.bs, k.cs, k.rs, k.ts, k.ob⟩ := ⟨T.fns, T.mts, T.mks, T.ob, T.prs, T.xis, T.lv1, T.fks, T.blt, T.cst, T.ex, T.exx, T.tc⟩
theorem pass00 {P : Program} {w : World} {W : Cx} : Passes (L2.CX P w) W E0 := fun _ _ _ _ _ _ _ c => by
  obtain ⟨_, _, _, _, _, _, _, _, _, _, _, _, z⟩ := c
  exact z.elim
theorem cxOk_def {x qual : Str} {scope : Scope} {lv : Nat} {k : Ck} {f : Addr} {cdv : Value} {A : Around} {outer : List PySem.Env} {s : Shared} {H : Hp} {E : XK} {ps : List Str} (Sc : FnScope k.N ps scope) (T : TxtOk P w K mg base (L2.CX P w) lv k) (hr : Room lv (A.deeper (envOfC qual scope s.heap.objs.size f cdv))) :
    CxOk k scope (fun _ => true) lv (L2.CX P w) E (cxOf (L2.CX P w) P w K mg base k.N qual scope f cdv A outer s H E) :=
  { hN := rfl, nd := Sc.nd, hsc := rfl, calm := rfl, room := hr, pass := passes_call (takes_of rfl rfl rfl rfl) (fun _ _ _ _ h => h), p0 := fun _ => pass00, own := passes_of rfl, fns := T.fns, mts := T.mts, mks := T.mks, ob := T.ob, prs := T.prs, xis := T.xis, lv1 := T.lv1, fks := T.fks, blt := T.blt, cst := T.cst, fnx := fun _ _ => rfl, tk := takes_of rfl rfl rfl rfl, ex := T.ex, exx := T.exx, tc := T.tc }
theorem def_ok {x qual : Str} {st : Stmt} {f : Addr} {fd : FuncData} {lv : Nat} {k : Ck} {body : List S} {nme : Str} {ps : List Str} {bo : List Bool} {dn : Nat} {cs : List Str} (F : Fun K x qual st f fd) (Sc : FnScope k.N ps (defScope st)) (T : TxtOk P w K mg base (L2.CX P w) lv k)
    (chk : S.oks k (defScope st) (fun _ => true) body (defBody st) = true) : FnOk P w K mg base (L2.CX P w) (lv + 1) f fd ps (Fn.sp K mg ⟨nme, ps, bo, dn, runDef k.Γ k.N body, cs, runDefS k.Γ k.N body⟩) := by
  refine F.okX Sc (fun vs H Q E h => h.1) fun cdv A outer s H vs Q E hr h => ⟨_, S.sounds body (defScope st) (fun _ => true) E _ (defBody st) (cxOk_def (x := x) Sc T hr) ⟨rfl, rfl, rfl⟩ chk, run_ts h⟩
def spLaw (K : PySem.W.Frag) : Sp := fun vs H Q _ => ∃ (a : Addr) (ns : List Int), vs = [.ref a] ∧ SqL K H a (ns.map V.int) ∧ ns.length ≤ 63 ∧ ∀ H', Q (.bl true) H'
theorem law_sp {K : PySem.W.Frag} {mg : Str → Option Value} {F : Fn} (h1 : F.ps.length = 1) (run : ∀ ns : List Int, ns.length ≤ 63 → F.run [.scr ns] = some (.ok (.bl true, []))) : ∀ vs H Q E E', spLaw K vs H Q E → F.sp K mg vs H Q E' := by
  rintro vs H Q E E' ⟨a, ns, rfl, hS, hl, q⟩
  refine ⟨h1.symm, .inl ⟨H, [.scr ns], Same.refl _, fun _ _ e => e, ⟨.ref a, [], rfl, ⟨a, rfl, hS⟩, rfl⟩, ?_⟩⟩
  rw [run ns hl]
  intro v ρ G' H' _ _ hv
  cases hv
  exact q H'
/-- the law's def: nothing leaves it -/
theorem def_law {x qual : Str} {st : Stmt} {f : Addr} {fd : FuncData} {lv : Nat} {k : Ck} {body : List S} {nme : Str} {ps : List Str} {bo : List Bool} {dn : Nat} {cs : List Str} (F : Fun K x qual st f fd) (Sc : FnScope k.N ps (defScope st)) (T : TxtOk P w K mg base (L2.CX P w) lv k)
    (chk : S.oks k (defScope st) (fun _ => true) body (defBody st) = true) (hps : ps.length = 1) (run : ∀ ns : List Int, ns.length ≤ 63 → runDef k.Γ k.N body [.scr ns] = some (.ok (.bl true, []))) : FnOk P w K mg base CX0 (lv + 1) f fd ps (spLaw K) := by
  refine F.ok Sc (fun vs H Q E h => by
    obtain ⟨a, ns, rfl, _⟩ := h
    exact hps.symm) fun cdv A outer s H vs Q E hr h => ?_
  have h0 : Fn.sp K mg ⟨nme, ps, bo, dn, runDef k.Γ k.N body, cs, runDefS k.Γ k.N body⟩ vs H Q E0 := law_sp (F := ⟨nme, ps, bo, dn, runDef k.Γ k.N body, cs, runDefS k.Γ k.N body⟩) hps run vs H Q E E0 h
  exact ⟨_, S.sounds body (defScope st) (fun _ => true) E0 _ (defBody st)
    { hN := rfl, nd := Sc.nd, hsc := rfl, calm := rfl, room := hr, pass := pass00, p0 := fun _ => pass00, own := PassesOwn.never, fns := T.fns, mts := T.mts, mks := T.mks, ob := T.ob, prs := T.prs, xis := T.xis, lv1 := T.lv1, fks := T.fks, blt := T.blt, cst := T.cst, fnx := fun _ _ => rfl, tk := takes0, ex := T.ex, exx := T.exx, tc := T.tc } ⟨rfl, rfl, rfl⟩ chk, run_ts h0⟩
/-- if isinstance(e, ..): return True, .., return isinstance(e, ..) -/
def predOk (k : Ck) (sc : Scope) : List (List Str) → List Stmt → Bool
  | [cs], [.Return (some e) _] => (ET.isT cs).ok k sc 0 e
  | cs :: r, .If e [.Return (some (.Constant (.bool true) _ _)) _] [] _ :: st => (ET.isT cs).ok k sc 0 e && plainT e && predOk k sc r st
  | _, _ => false
theorem pred_sound {k : Ck} {sc : Scope} {fn : Str → Bool} {W : Cx} {a D : Addr} {oe : Obj} {cls : Str} {dd : Option Addr} {fs : List (Str × Lv.D)} (h : SuOk k sc fn W) (hpn : (a, oe) ∈ W.pn) (X : ExR W.K W.mg k.ts cls D) (hz : Zc (.ref D) dd oe) (hf : ∃ vs, oe.data = .fields vs) : ∀ (css : List (List Str)) (st : List Stmt), predOk k sc css st = true →
    PSs W st (fun Dn σ H => σ[0]? = some (some (V.ref a)) ∧ ∃ c ρ G μ, c.K = W.K ∧ c.mg = W.mg ∧ XdG dd fs G ∧ Rel c ρ G μ H ∧ ∀ ρ' G' H', ρ <+: ρ' → Same G G' → Rel c ρ' G' μ H' → Dn.rt (.bl (css.flatten.any (subE cls))) H') := by
  have nope : ∀ {c : Ct} {ρ : List Addr} {G : Hp} {σ : L2.St}, EnvOk c ρ G (σ.map fun _ => none) σ := fun {c ρ G σ} => ⟨by simp, fun i d e => by simp at e⟩
  intro css
  induction css with
  | nil =>
    intro st q
    cases st <;> cases q
  | cons cs r ih =>
    intro st q
    unfold predOk at q
    split at q
    · rename_i cs0 e p e1
      cases e1
      have h1 := ET.soundX (j := 0) (fs := fs) h hpn X hz hf (.isT cs) e q
      refine PSs.imp (pss_one (ps_ret h1)) ?_
      rintro Dn σ H ⟨hs, c, ρ, G, μ, hK, hm, hx0, re, hq⟩
      refine ⟨hs, c, σ.map fun _ => none, ρ, G, μ, hK, hm, hx0, re, nope, ?_⟩
      intro ρ' G' H' p1 s1 r1 v hv
      cases hv
      have z := hq ρ' G' H' p1 s1 r1
      rw [show ([cs] : List (List Str)).flatten = cs by simp] at z
      exact z
    · rename_i cs0 r0 e jj pp rp ip st0 e1
      cases e1
      obtain ⟨q, q3⟩ := and_ok q
      obtain ⟨q1, q2⟩ := and_ok q
      have h1 := ET.soundX (j := 0) (fs := fs) h hpn X hz hf (.isT cs) e q1
      have hT := pt_val h1 (plainT_ok q2)
      refine PSs.imp (pss_cons (ps_if hT (pss_one (ps_ret (pe_bl (b := true)))) pss_nil) (ih st0 q3)) ?_
      rintro Dn σ H ⟨hs, c, ρ, G, μ, hK, hm, hx0, re, hq⟩
      refine ⟨hs, c, σ.map fun _ => none, ρ, G, μ, hK, hm, hx0, re, nope, ?_⟩
      intro ρ' G' H' p1 s1 r1 v hv
      cases hv
      refine ⟨cs.any (subE cls), rfl, ?_⟩
      have z : ∀ ρ2 G2 H2, ρ' <+: ρ2 → Same G' G2 → Rel c ρ2 G2 μ H2 → Dn.rt (.bl (cs.any (subE cls) || r.flatten.any (subE cls))) H2 := fun ρ2 G2 H2 p2 s2 r2 => by
        have := hq ρ2 G2 H2 (p1.trans p2) (s1.trans s2) r2
        rw [List.flatten_cons, List.any_append] at this
        exact this
      cases hb : cs.any (subE cls) with
      | true =>
        rw [hb] at z
        exact z ρ' G' H' (List.prefix_refl _) (Same.refl _) r1
      | false =>
        rw [hb] at z
        exact ⟨hs, c, ρ', G', μ, hK, hm, hx0.up s1, r1, fun ρ2 G2 H2 p2 s2 r2 => z ρ2 G2 H2 p2 s2 r2⟩
    · cases q
theorem pr_mk {x qual g : Str} {st : Stmt} {f : Addr} {fd : FuncData} {bs rs ts : List Str} {cst : List (Str × D)} {css : List (List Str)} (F : Fun K g qual st f fd) (Sc : FnScope [x] [x] (defScope st)) (hg : mg g = some (.ref f)) (hk : PySem.W.keepIn K (.ref f) = true) (hB : Binds K fd [x] []) (hb : ∀ b ∈ bs, mg b = none) (hts : ∀ c ∈ ts, ∃ cv, CV mg c cv)
    (chk : predOk ⟨[x], [], bs, cst, rs, ts, ⟨[], [], [], [], [], []⟩⟩ (defScope st) css (defBody st) = true) : PrOk P w K mg base ts g css.flatten := by
  refine ⟨f, x, fd, hg, hk, hB, ?_⟩
  intro A outer s H a oe D dd fs cls args Q hr e0 hpin hz hf X hq hbd
  obtain ⟨oc, od, kV, doc, pm, an, cdv, ct, osl, rfl, lk, hcd⟩ := F.ex
  have KX : K.In s.heap := e0.mod.kin.keeps fun b o e => (e0.bs b o e).1
  have lim : s.heap.NoLimit := e0.mod.nolimit.keeps fun b o e => (e0.bs b o e).1
  have hkind : ∀ y ∈ [x].zip [Value.ref a], (defScope st).names.lookup y.1 = some .local ∨ ((defScope st).names.lookup y.1 = some .cell ∧ ((cellsFrom (s.heap.objs.size + 1) (defScope st).names []).lookup y.1).isSome = true) := fun ⟨n, v⟩ hy => by
    rcases Sc.par n (List.of_mem_zip hy).1 with q | q
    · exact .inl q
    · exact .inr ⟨q, PySem.W.cellsFrom_some _ _ _ (.inl q)⟩
  refine codeAny_call_function hr.depth (KX _ _ lk) rfl Sc.co Sc.gen rfl (PySem.W.codeRec_of KX hcd) (hbd _ _ _ _ ?_)
  refine wpAny_newFunctionEnv_cells Sc.kind hkind fun env he s1 x1 => ?_
  subst he
  refine ⟨lim.keeps x1.toInCall.keep, codeAny_func ?_⟩
  let W := L2H.cxH (L2.CX P w) P w K mg base [x] qual (defScope st) f cdv A outer s H E0 (a, oe)
  have I : Inv W [] (L2.start [x] [V.ref a]) H s1 := L2H.inv_startH Sc hpin e0 rfl (.cons rfl .nil) x1
  have su : SuOk ⟨[x], [], bs, cst, rs, ts, ⟨[], [], [], [], [], []⟩⟩ (defScope st) (fun _ => true) W := { hN := rfl, nd := Sc.nd, hsc := rfl, blt := hb, fnx := fun _ _ => rfl, prs := fun _ _ h => (nomatch h) }
  have hP := pred_sound (fs := fs) su (List.mem_singleton.mpr rfl) X hz hf css _ chk
  have hI := hP.run [] s1 _ H { nx := fun _ H' => Q .non H', rt := Q } I ⟨rfl, hq⟩
  refine wpAny_mono hI (fun fl s' hs => ?_) fun e s' hs => hs
  have fin : ∀ {σ' : L2.St} {H' : Hp} {v : V} {u : Value}, Inv W [] σ' H' s' → RelV v u → Q v H' → CE outer P w H s Q u s' :=
    fun {σ' H' v u} J rv q => ⟨v, H', J.os, J.bare, J.base, J.hok, rv, q⟩
  cases fl with
  | ret u =>
    obtain ⟨v, σ', H', J, rv, q⟩ := hs
    exact fin J rv q
  | next =>
    obtain ⟨σ', H', J, q⟩ := hs
    exact fin (v := V.non) (u := Value.none) J rfl q
  | brk =>
    obtain ⟨_, _, _, q⟩ := hs
    exact False.elim q
  | cont =>
    obtain ⟨_, _, _, q⟩ := hs
    exact False.elim q
/-! C.__init__ of a class of exceptions with fields -/
def xiV (sc : Scope) (N : List Str) (i : Nat) (x : Str) : Bool := decide (N[i]? = some x) && vis sc x && nm x
def xiF (sc : Scope) (N : List Str) : Nat → List Str → List Stmt → Bool
  | _, [], [] => true
  | i, f :: fns, .Assign [.Attribute (.Name s _) g _] (.Name p _) _ :: st => decide (f = g) && xiV sc N 0 s && xiV sc N i p && xiF sc N (i + 1) fns st
  | _, _, _ => false
def xiB (g : Str) (sc : Scope) (N : List Str) (fns : List Str) : List Stmt → Bool
  | .Expr (.Call (.Attribute (.Name x _) m ap) [.Name s _, .Constant (.str _) _ _] [] cp) _ :: st => decide (x = g) && glb sc x && nm x && decide (m = ("__init__" : Str)) && (ap.endLine == cp.line) && xiV sc N 0 s && xiF sc N 1 fns st && !fns.isEmpty
  | _ => false
theorem xiV_ok {sc : Scope} {N : List Str} {i : Nat} {x : Str} {W : Cx} {pos : Pos} (hN : W.N = N) (hsc : W.env.scope = sc) (q : xiV sc N i x = true) : PE W (.Name x pos) (tVar i) := by
  unfold xiV at q
  obtain ⟨q, q3⟩ := and_ok q
  obtain ⟨q1, q2⟩ := and_ok q
  obtain ⟨m1, m2, m3⟩ := nm_ok q3
  have hv : Vis W.env.scope x := by
    rw [hsc]
    unfold vis at q2
    split at q2
    · exact .inl (by assumption)
    · exact .inr (.inl (by assumption))
    · exact .inr (.inr (by assumption))
    · cases q2
  exact pe_var (by rw [hN]; exact of_decide_eq_true q1) hv m1 m2
theorem mkFs_cons {α : Type} (f : Str) (y : α) (fns : List Str) (ys : List α) : mkFs (f :: fns) (y :: ys) = mkFs fns ys ++ [(f, y)] := by
  unfold mkFs
  rw [List.zip_cons_cons, List.reverse_cons]
theorem xiF_sound {sc : Scope} {N : List Str} {W : Cx} (hN : W.N = N) (hsc : W.env.scope = sc) : ∀ (fns : List Str) (i : Nat) (st : List Stmt), xiF sc N i fns st = true →
    PSs W st (fun Dn σ H => ∃ (a D dx : Addr) (done : List (Str × V)) (ys : List V), σ[0]? = some (some (.ref a)) ∧ OexC W.K D ∧ (∀ f ∈ fns, PySem.W.findIn W.K (.ref D) f = some none) ∧ ys.length = fns.length ∧ (∀ j y, ys[j]? = some y → σ[i + j]? = some (some y)) ∧ done.length + fns.length ≤ 900 ∧ dx ≠ a ∧ H a = some (exo a D (some dx)) ∧ H dx = some (exd dx done) ∧ Dn.nx σ (upd H dx (exd dx (mkFs fns ys ++ done))))
  | [], i, [], _ => PSs.imp pss_nil fun Dn σ H z => by
    obtain ⟨a, D, dx, done, ys, h1, h2, h3, h4, h5, h6, h7, h8, h9, h10⟩ := z
    have e : upd H dx (exd dx (mkFs [] ys ++ done)) = H := by
      funext b
      by_cases hb : b = dx
      · rw [hb, upd_same, h9]
        rfl
      · rw [upd_ne hb]
    rw [e] at h10
    exact h10
  | f :: fns, i, s :: st, q => by
    unfold xiF at q
    split at q
    · rename_i e1 e2
      cases e1
    · rename_i i0 f0 fns0 sx sp g ap p pp spos st0 e1 e2
      cases e1
      cases e2
      obtain ⟨q, q4⟩ := and_ok q
      obtain ⟨q, q3⟩ := and_ok q
      obtain ⟨q1, q2⟩ := and_ok q
      have hfg : f = g := of_decide_eq_true q1
      subst hfg
      refine PSs.imp (pss_cons (ps_ost (xiV_ok hN hsc q2) (xiV_ok hN hsc q3) swap_attr) (xiF_sound hN hsc _ _ _ q4)) ?_
      rintro Dn σ H ⟨a, D, dx, done, ys, h1, h2, h3, h4, h5, h6, h7, h8, h9, h10⟩
      cases ys with
      | nil => cases h4
      | cons y ys =>
        have hy := h5 0 y rfl
        rw [Nat.add_zero] at hy
        rw [List.length_cons] at h6
        refine ⟨y, hy, .ref a, h1, a, D, rfl, h2, h3 f List.mem_cons_self, .inr ⟨dx, done, h8, h9, by omega, ?_⟩⟩
        refine ⟨a, D, dx, (f, y) :: done, ys, h1, h2, fun z hz => h3 z (List.mem_cons_of_mem _ hz), by simpa using h4, fun j z hz => ?_, by rw [List.length_cons]; omega, h7, ?_, upd_same, ?_⟩
        · have := h5 (j + 1) z (by simpa using hz)
          rw [← this]
          congr 1
          omega
        · rw [upd_ne (Ne.symm h7)]
          exact h8
        · rw [upd_upd]
          rw [mkFs_cons, List.append_assoc] at h10
          exact h10
    · cases q
  | [], _, _ :: _, q => by cases q
  | _ :: _, _, [], q => by cases q
theorem xi_mk {g : Str} {B D : Addr} {x qual cls : Str} {st : Stmt} {f : Addr} {fd : FuncData} {N fns : List Str} (F : Fun K x qual st f fd) (Sc : FnScope N N (defScope st)) (hB : Binds K fd N []) (hg : mg g = some (.ref B)) (vB : VeB K B) (T : OexC K D) (hX : XfC K D) (hno : ∀ z ∈ fns, PySem.W.findIn K (.ref D) z = some none) (hm : mg cls = some (.ref D))
    (iC : PySem.W.findIn K (.ref D) "__init__" = some (some (.ref f))) (tI : PySem.W.typeIn K (.ref f) = some (.type "function")) (hl : N.length = fns.length + 1) (hfew : fns.length ≤ 100) (chk : xiB g (defScope st) N fns (defBody st) = true) : XiAt P w K mg base (L2.CX P w) 2 cls fns := by
  generalize hbody : defBody st = body at chk
  unfold xiB at chk
  split at chk
  case h_2 => cases chk
  rename_i y p1 m ap s sp mm kk mp cp ep st0
  obtain ⟨q, q8⟩ := and_ok chk
  obtain ⟨q, q7⟩ := and_ok q
  obtain ⟨q, q6⟩ := and_ok q
  obtain ⟨q, q5⟩ := and_ok q
  obtain ⟨q, q4⟩ := and_ok q
  obtain ⟨q, q3⟩ := and_ok q
  obtain ⟨q1, q2⟩ := and_ok q
  have hyg : y = g := of_decide_eq_true q1
  subst hyg
  have hmi : m = ("__init__" : Str) := of_decide_eq_true q4
  subst hmi
  obtain ⟨n1, n2, n3⟩ := nm_ok q3
  cases fns with
  | nil => cases q8
  | cons f1 fns =>
  refine ⟨⟨D, f, fd, N, 1, hm, T, hX, hno, iC, tI, hB, ?_, Nat.le_refl _⟩, fun z => (by cases z), hfew⟩
  refine F.okX Sc (fun vs H Q E h => ?_) fun cdv A outer s0 H vs Q E hr h => ?_
  · obtain ⟨a, ws, rfl, h1, _⟩ := h
    rw [List.length_cons, h1, hl]
  obtain ⟨a, ws, rfl, h1, h2, h3⟩ := h
  rw [hbody]
  generalize hW : cxOf (L2.CX P w) P w K mg base N qual (defScope st) f cdv A outer s0 H E = W
  have hN : W.N = N := by rw [← hW]; rfl
  have hsc : W.env.scope = defScope st := by rw [← hW]; rfl
  have hK : W.K = K := by rw [← hW]; rfl
  have hmg : W.mg = mg := by rw [← hW]; rfl
  have hgl : Gl W y := by
    have q2' := q2
    unfold glb at q2'
    split at q2'
    · show W.env.scope.names.lookup y = some .globalImplicit
      rw [hsc]
      assumption
    · cases q2'
  have hs0 := xiV_ok (pos := sp) hN hsc q6
  have hargs : PA W [.Name s sp, .Constant (.str mm) kk mp] (tCons (tVar 0) (tCons (tC (.str mm)) tNil)) := pa_cons hs0 (pa_cons pe_str pa_nil (star_cons rfl)) (star_cons rfl)
  have hns : allNS [.Name s sp, .Constant (.str mm) kk mp] := allNS_cons rfl (allNS_cons rfl allNS_nil)
  have ht := ht_of (env := W.env) (o := .Name y p1) (name := ("__init__" : Str)) (apos := ap) (pos := cp) (args := [.Name s sp, .Constant (.str mm) kk mp]) (base_ok rfl) (few_ok hns (by simp)) q5
  have hcall := pe_ginit (p1 := p1) (p2 := ap) (pos := cp) hgl (by rw [hmg]; exact hg) n1 (by rw [hK]; exact vB) hargs ht (star_cons rfl) (star_any fun z hz => hns z (List.mem_cons_of_mem _ hz))
  cases st0 with
  | nil => cases q7
  | cons s1 st1 =>
  unfold xiF at q7
  split at q7
  · rename_i e1 e2
    cases e1
  · rename_i i0 f0 fns0 sx sxp g ap2 p pp spos st2 e1 e2
    cases e1
    cases e2
    obtain ⟨q, qd⟩ := and_ok q7
    obtain ⟨q, qc⟩ := and_ok q
    obtain ⟨qa, qb⟩ := and_ok q
    have hfg : f1 = g := of_decide_eq_true qa
    subst hfg
    refine ⟨_, pss_cons (ps_expr hcall (swap_none rfl)) (pss_cons (ps_ost (xiV_ok hN hsc qb) (xiV_ok hN hsc qc) swap_attr) (xiF_sound hN hsc fns 2 st1 qd)), ?_⟩
    cases ws with
    | nil => cases h1
    | cons y1 ws =>
      have hst : ∀ j z, (V.ref a :: y1 :: ws)[j]? = some z → (L2.start N (V.ref a :: y1 :: ws))[j]? = some (some z) := fun j z hz => by
        unfold L2.start
        have hj := (List.getElem?_eq_some_iff.mp hz).1
        rw [List.getElem?_append_left (by rw [List.length_map]; exact hj), List.getElem?_map, hz]
        rfl
      refine ⟨.ref a, hst 0 _ rfl, a, D, [.str mm], rfl, by simp, by rw [hK]; exact T, h2, ?_⟩
      refine ⟨y1, hst 1 _ rfl, .ref a, hst 0 _ rfl, a, D, rfl, by rw [hK]; exact T, by rw [hK]; exact hno f1 List.mem_cons_self, .inl ⟨h2, fun dx hd hne => ?_⟩⟩
      refine ⟨a, D, dx, [(f1, y1)], ws, hst 0 _ rfl, by rw [hK]; exact T, fun z hz => by rw [hK]; exact hno z (List.mem_cons_of_mem _ hz), by simpa using h1, fun j z hz => ?_, ?_, hne, upd_same, ?_, ?_⟩
      · have := hst (j + 2) z (by simpa using hz)
        rw [← this]
        congr 1
        omega
      · rw [List.length_cons] at hfew
        simp only [List.length_cons, List.length_nil]
        omega
      · rw [upd_ne hne, upd_same]
      · have z := h3 dx hd hne
        have e : upd (upd (upd H dx (exd dx [(f1, y1)])) a (exo a D (some dx))) dx (exd dx (mkFs fns ws ++ [(f1, y1)])) = upd (upd H dx (exd dx (mkFs (f1 :: fns) (y1 :: ws)))) a (exo a D (some dx)) := by
          rw [mkFs_cons]
          funext b
          by_cases hb : b = dx
          · rw [hb, upd_same, upd_ne hne, upd_same]
          · rw [upd_ne hb]
            by_cases hc : b = a
            · rw [hc, upd_same, upd_same]
            · rw [upd_ne hc, upd_ne hb, upd_ne hc, upd_ne hb]
        rw [e]
        exact z
  · cases q7
end
end Lv
set_option Elab.async false
set_option linter.all false
set_option maxRecDepth 100000
set_option autoImplicit false
/-! what a run gives, step by step -/
namespace Lv
open PySem PySem.Spec PyProof.Rows
def Ok {α : Type} (r : R α) (P : α → Sto → Prop) : Prop := match r with
  | some (.ok (a, μ)) => P a μ
  | _ => False
section
variable {α β : Type} {P : α → Sto → Prop} {μ : Sto} {Γ : List (Nat × Fn)} {env : Env}
theorem Ok_ok (a : α) : Ok (ok a μ) P = P a μ := rfl
theorem Ok_none : Ok (none : R α) P = False := rfl
theorem Ok_rb (r : R β) (k : β → Sto → R α) : Ok (rb r k) P = Ok r fun a μ1 => Ok (k a μ1) P := by
  cases r with
  | none => rfl
  | some e =>
    cases e with
    | error x => rfl
    | ok p => rfl
theorem Ok_guard (c : Prop) [Decidable c] (r : R α) : Ok (if c then r else none) P = (c ∧ Ok r P) := by
  by_cases h : c
  · rw [if_pos h]
    simp [h]
  · rw [if_neg h]
    simp [h, Ok_none]
theorem Ok.imp {r : R α} {Q : α → Sto → Prop} (h : Ok r P) (q : ∀ a μ, P a μ → Q a μ) : Ok r Q := by
  match r, h with
  | some (.ok (a, μ)), h => exact q a μ h
theorem Ok.elim {r : R α} (h : Ok r P) : ∃ a μ', r = ok a μ' ∧ P a μ' := by
  match r, h with
  | some (.ok (a, μ)), h => exact ⟨a, μ, rfl, h⟩
theorem Ok.noErr {r : R α} (h : Ok r P) : Ok (Lv.noErr r) P := by
  match r, h with
  | some (.ok (a, μ)), h => exact h
end
/-! statements -/
def seqP (Γ : List (Nat × Fn)) (r : List S) (P : Fl → Sto → Prop) : Fl → Sto → Prop := fun fl μ => match fl with
  | .nx e => Ok (S.evs Γ r e μ) P
  | .rt d => P (.rt d) μ
section
variable {P : Fl → Sto → Prop} {Q : D → Sto → Prop} {QL : List D → Sto → Prop} {QI : Sr → Sto → Prop} {μ : Sto} {Γ : List (Nat × Fn)} {env : Env} {d : D} {r : List S}
theorem seqP_nx : seqP Γ r P (.nx env) μ = Ok (S.evs Γ r env μ) P := rfl
theorem seqP_rt : seqP Γ r P (.rt d) μ = P (.rt d) μ := rfl
theorem o_nil : Ok (S.evs Γ [] env μ) P = P (.nx env) μ := rfl
theorem o_cons (s : S) : Ok (S.evs Γ (s :: r) env μ) P = Ok (S.ev Γ s env μ) (seqP Γ r P) := by
  show Ok (rb (S.ev Γ s env μ) _) P = _
  rw [Ok_rb]
  congr 1
  funext fl μ1
  cases fl <;> rfl
theorem o_ret (x : X) : Ok (S.ev Γ (.ret x) env μ) P = Ok (x.ev Γ env μ) fun d μ1 => P (.rt d) μ1 := by
  show Ok (rb (x.ev Γ env μ) _) P = _
  rw [Ok_rb]
  rfl
theorem o_expr (x : X) : Ok (S.ev Γ (.expr x) env μ) P = Ok (x.ev Γ env μ) fun _ μ1 => P (.nx env) μ1 := by
  show Ok (rb (x.ev Γ env μ) _) P = _
  rw [Ok_rb]
  rfl
theorem o_set (i : Nat) (x : X) : Ok (S.ev Γ (.set i x) env μ) P = Ok (x.ev Γ env μ) fun d μ1 => P (.nx (env.set i (some d))) μ1 := by
  show Ok (rb (x.ev Γ env μ) _) P = _
  rw [Ok_rb]
  rfl
theorem o_asg (is : List Nat) (x : X) : Ok (S.ev Γ (.asg is x) env μ) P = Ok (x.ev Γ env μ) fun d μ1 => ∃ ds, d = .tup ds ∧ ds.length = is.length ∧ P (.nx (sets is ds env)) μ1 := by
  show Ok (rb (x.ev Γ env μ) _) P = _
  rw [Ok_rb]
  congr 1
  funext d μ1
  show Ok (match Tg.bind (.tup is) d env with
    | some e => ok (.nx e) μ1
    | none => none) P = _
  cases d with
  | tup ds =>
    show Ok (match (if ds.length = is.length then some (sets is ds env) else none) with
      | some e => ok (.nx e) μ1
      | none => none) P = _
    by_cases h : ds.length = is.length
    · rw [if_pos h]
      simp [h, Ok_ok]
    · rw [if_neg h]
      simp [h, Ok_none]
  | _ => simp [Tg.bind, Ok_none]
theorem o_ife (c : X) (a b : List S) : Ok (S.ev Γ (.ife c a b) env μ) P = Ok (c.ev Γ env μ) fun d μ1 => ∃ t, d = .bl t ∧ (t = true → Ok (S.evs Γ a env μ1) P) ∧ (t = false → Ok (S.evs Γ b env μ1) P) := by
  show Ok (rb (c.ev Γ env μ) _) P = _
  rw [Ok_rb]
  congr 1
  funext d μ1
  cases d with
  | bl t => cases t <;> simp
  | _ => simp [Ok_none]
theorem o_setIx (o i v : X) : Ok (S.ev Γ (.setIx o i v) env μ) P = Ok (v.ev Γ env μ) fun d μ1 => Ok (o.ev Γ env μ1) fun o μ2 => Ok (i.ev Γ env μ2) fun i μ3 => Ok (dSet o i d μ3) fun _ μ4 => P (.nx env) μ4 := by
  show Ok (rb (v.ev Γ env μ) _) P = _
  simp only [Ok_rb, Ok_ok]
theorem o_aug (a : Aop) (i : Nat) (x : X) : Ok (S.ev Γ (.aug a i x) env μ) P = Ok (fVar i env μ) fun x0 _ => Ok (x.ev Γ env μ) fun y μ1 => Ok (a.d x0 y μ1) fun z μ2 => P (.nx (env.set i (some z))) μ2 := by
  show Ok (rb (fVar i env μ) _) P = _
  simp only [Ok_rb, Ok_ok]
theorem o_augIx (a : Aop) (o i x : X) : Ok (S.ev Γ (.augIx a o i x) env μ) P = Ok (o.ev Γ env μ) fun o μ1 => Ok (i.ev Γ env μ1) fun i μ2 => Ok (dIxL o i μ2) fun w μ3 => Ok (x.ev Γ env μ3) fun y μ4 => Ok (a.d w y μ4) fun z μ5 => Ok (dSet o i z μ5) fun _ μ6 => P (.nx env) μ6 := by
  show Ok (rb (o.ev Γ env μ) _) P = _
  simp only [Ok_rb, Ok_ok]
theorem o_kill (is : List Nat) : Ok (S.ev Γ (.kill is) env μ) P = P (.nx (is.foldl (fun e i => e.set i none) env)) μ := rfl
theorem o_pass : Ok (S.ev Γ .pass env μ) P = P (.nx env) μ := rfl
theorem o_retN : Ok (S.ev Γ .retN env μ) P = P (.rt .non) μ := rfl
/-! expressions -/
theorem o_var (i : Nat) : Ok (X.ev Γ (.var i) env μ) Q = Ok (fVar i env μ) Q := rfl
theorem o_int (i : Int) : Ok (X.ev Γ (.int i) env μ) Q = Q (.int i) μ := rfl
theorem o_bl (i : Bool) : Ok (X.ev Γ (.bl i) env μ) Q = Q (.bl i) μ := rfl
theorem o_non : Ok (X.ev Γ .non env μ) Q = Q .non μ := rfl
theorem o_str (x : Str) : Ok (X.ev Γ (.str x) env μ) Q = Q (.str x) μ := rfl
theorem o_cst (x : Str) (d : D) : Ok (X.ev Γ (.cst x d) env μ) Q = Q d μ := rfl
theorem o_bin (b : Bop) (lv : Bool) (x y : X) : Ok (X.ev Γ (.bin b lv x y) env μ) Q = Ok (x.ev Γ env μ) fun d μ1 => Ok (y.ev Γ env μ1) fun e μ2 => Ok (b.d lv d e μ2) Q := by
  show Ok (rb (x.ev Γ env μ) _) Q = _
  simp only [Ok_rb, Ok_ok]
theorem o_neg (x : X) : Ok (X.ev Γ (.neg x) env μ) Q = Ok (x.ev Γ env μ) fun d μ1 => Ok (dNeg d μ1) Q := by
  show Ok (rb (x.ev Γ env μ) _) Q = _
  rw [Ok_rb]
theorem o_cmp (k : Cmp) (x y : X) : Ok (X.ev Γ (.cmp k x y) env μ) Q = Ok (x.ev Γ env μ) fun d μ1 => Ok (y.ev Γ env μ1) fun e μ2 => Ok (dCmp k d e μ2) Q := by
  show Ok (rb (x.ev Γ env μ) _) Q = _
  simp only [Ok_rb, Ok_ok]
theorem o_chain (k k' : Cmp) (x y z : X) : Ok (X.ev Γ (.chain k k' x y z) env μ) Q = Ok (x.ev Γ env μ) fun d μ1 => Ok (y.ev Γ env μ1) fun e μ2 => Ok (dCmp k d e μ2) fun t μ3 => ∃ b, t = .bl b ∧ (b = true → Ok (z.ev Γ env μ3) fun g μ4 => Ok (dCmp k' e g μ4) Q) ∧ (b = false → Q (.bl false) μ3) := by
  show Ok (rb (x.ev Γ env μ) _) Q = _
  simp only [Ok_rb, Ok_ok]
  congr 1
  funext d μ1
  congr 1
  funext e μ2
  congr 1
  funext t μ3
  cases t with
  | bl b => cases b <;> simp [Ok_rb, Ok_ok]
  | _ => simp [Ok_none]
theorem o_isN (x : X) : Ok (X.ev Γ (.isN x) env μ) Q = Ok (x.ev Γ env μ) fun d μ1 => Ok (dIsN d μ1) Q := by
  show Ok (rb (x.ev Γ env μ) _) Q = _
  rw [Ok_rb]
theorem o_notN (x : X) : Ok (X.ev Γ (.notN x) env μ) Q = Ok (x.ev Γ env μ) fun d μ1 => Ok (dNotN d μ1) Q := by
  show Ok (rb (x.ev Γ env μ) _) Q = _
  rw [Ok_rb]
theorem o_and (xs : List X) : Ok (X.ev Γ (.and xs) env μ) Q = Ok (X.evAnd Γ xs env μ) Q := rfl
theorem o_or (xs : List X) : Ok (X.ev Γ (.or xs) env μ) Q = Ok (X.evOr Γ xs env μ) Q := rfl
theorem o_and1 (x : X) : Ok (X.evAnd Γ [x] env μ) Q = Ok (x.ev Γ env μ) Q := rfl
theorem o_or1 (x : X) : Ok (X.evOr Γ [x] env μ) Q = Ok (x.ev Γ env μ) Q := rfl
theorem o_and2 (x y : X) (r : List X) : Ok (X.evAnd Γ (x :: y :: r) env μ) Q = Ok (x.ev Γ env μ) fun d μ1 => ∃ t, d = .bl t ∧ (t = true → Ok (X.evAnd Γ (y :: r) env μ1) Q) ∧ (t = false → Q (.bl false) μ1) := by
  show Ok (rb (x.ev Γ env μ) _) Q = _
  rw [Ok_rb]
  congr 1
  funext d μ1
  cases d with
  | bl t => cases t <;> simp [Ok_ok]
  | _ => simp [Ok_none]
theorem o_or2 (x y : X) (r : List X) : Ok (X.evOr Γ (x :: y :: r) env μ) Q = Ok (x.ev Γ env μ) fun d μ1 => ∃ t, d = .bl t ∧ (t = true → Q (.bl true) μ1) ∧ (t = false → Ok (X.evOr Γ (y :: r) env μ1) Q) := by
  show Ok (rb (x.ev Γ env μ) _) Q = _
  rw [Ok_rb]
  congr 1
  funext d μ1
  cases d with
  | bl t => cases t <;> simp [Ok_ok]
  | _ => simp [Ok_none]
theorem o_not (x : X) : Ok (X.ev Γ (.not x) env μ) Q = Ok (x.ev Γ env μ) fun d μ1 => Ok (dNot d μ1) Q := by
  show Ok (rb (x.ev Γ env μ) _) Q = _
  rw [Ok_rb]
theorem o_lst (lv : Bool) (xs : List X) : Ok (X.ev Γ (.lst lv xs) env μ) Q = Ok (X.evs Γ xs env μ) fun ds μ1 => Ok (dLst lv ds μ1) Q := by
  show Ok (rb (X.evs Γ xs env μ) _) Q = _
  rw [Ok_rb]
theorem o_tup (xs : List X) : Ok (X.ev Γ (.tup xs) env μ) Q = Ok (X.evs Γ xs env μ) fun ds μ1 => Ok (dTup ds μ1) Q := by
  show Ok (rb (X.evs Γ xs env μ) _) Q = _
  rw [Ok_rb]
theorem o_ix (x y : X) : Ok (X.ev Γ (.ix x y) env μ) Q = Ok (x.ev Γ env μ) fun d μ1 => Ok (y.ev Γ env μ1) fun e μ2 => Ok (dIx d e μ2) Q := by
  show Ok (rb (x.ev Γ env μ) _) Q = _
  simp only [Ok_rb]
theorem o_slice (lv : Bool) (x : X) (lo hi : List X) : Ok (X.ev Γ (.slice lv x lo hi) env μ) Q = Ok (x.ev Γ env μ) fun d μ1 => Ok (fPart (X.evo Γ lo) env μ1) fun l μ2 => Ok (fPart (X.evo Γ hi) env μ2) fun u μ3 => Ok (dSlice lv d l u μ3) Q := by
  show Ok (rb (x.ev Γ env μ) _) Q = _
  simp only [Ok_rb]
theorem o_part0 {P : Option Int → Sto → Prop} : Ok (fPart (X.evo Γ []) env μ) P = P none μ := rfl
theorem o_part1 {P : Option Int → Sto → Prop} (x : X) : Ok (fPart (X.evo Γ [x]) env μ) P = Ok (x.ev Γ env μ) fun d μ1 => ∃ i, d = .int i ∧ P (some i) μ1 := by
  show Ok (rb (x.ev Γ env μ) _) P = _
  rw [Ok_rb]
  congr 1
  funext d μ1
  cases d with
  | int i => simp [Ok_ok]
  | _ => simp [Ok_none]
theorem o_call (f dn : Nat) (fz : Bool) (xs : List X) : Ok (X.ev Γ (.call f dn fz xs) env μ) Q = Ok (X.evs Γ xs env μ) fun ds μ1 => Ok (fnth Γ f dn fz ds μ1) Q := by
  show Ok (rb (X.evs Γ xs env μ) _) Q = _
  rw [Ok_rb]
theorem o_bi (b : BI) (lv : Bool) (xs : List X) : Ok (X.ev Γ (.bi b lv xs) env μ) Q = Ok (X.evs Γ xs env μ) fun ds μ1 => Ok (b.d lv ds μ1) Q := by
  show Ok (rb (X.evs Γ xs env μ) _) Q = _
  rw [Ok_rb]
theorem o_isi (t : Ty) (x : X) : Ok (X.ev Γ (.isi t x) env μ) Q = Ok (x.ev Γ env μ) fun d μ1 => Ok (dIsi t d μ1) Q := by
  show Ok (rb (x.ev Γ env μ) _) Q = _
  rw [Ok_rb]
theorem o_frz (x : X) : Ok (X.ev Γ (.frz x) env μ) Q = Ok (x.ev Γ env μ) fun d μ1 => Ok (dFrz d μ1) Q := by
  show Ok (rb (x.ev Γ env μ) _) Q = _
  rw [Ok_rb]
theorem o_rev (lv : Bool) (x : X) : Ok (X.ev Γ (.rev lv x) env μ) Q = Ok (x.ev Γ env μ) fun d μ1 => Ok (dRev lv d μ1) Q := by
  show Ok (rb (x.ev Γ env μ) _) Q = _
  rw [Ok_rb]
theorem o_isB (neg : Bool) (x : X) (b : Bool) : Ok (X.ev Γ (.isB neg x b) env μ) Q = Ok (x.ev Γ env μ) fun d μ1 => Ok (dIsB neg d (.bl b) μ1) Q := by
  show Ok (rb (x.ev Γ env μ) _) Q = _
  rw [Ok_rb]
  rfl
theorem o_lrg (lv : Bool) (xs : List X) : Ok (X.ev Γ (.lrg lv xs) env μ) Q = Ok (X.evs Γ xs env μ) fun ds μ1 => Ok (dLrg lv ds μ1) Q := by
  show Ok (rb (X.evs Γ xs env μ) _) Q = _
  rw [Ok_rb]
theorem o_par (i j : Nat) (x y : X) : Ok (S.ev Γ (.par i j x y) env μ) P = Ok (x.ev Γ env μ) fun d μ1 => Ok (y.ev Γ env μ1) fun e μ2 => P (.nx ((env.set i (some d)).set j (some e))) μ2 := by
  show Ok (rb (x.ev Γ env μ) _) P = _
  simp only [Ok_rb, Ok_ok]
theorem o_mth0 (m : Mth) (x : X) : Ok (X.ev Γ (.mth m x []) env μ) Q = Ok (x.ev Γ env μ) fun d μ1 => isList μ1 d = true ∧ Ok (dMth m d [] μ1) Q := by
  show Ok (rb (x.ev Γ env μ) _) Q = _
  rw [Ok_rb]
  simp only [Ok_guard]
theorem o_mth (m : Mth) (x y : X) (ys : List X) : Ok (X.ev Γ (.mth m x (y :: ys)) env μ) Q = Ok (x.ev Γ env μ) fun d μ1 => isList μ1 d = true ∧ Ok (X.evs Γ (y :: ys) env μ1) fun ds μ2 => Ok (dMth m d ds μ2) Q := by
  show Ok (rb (x.ev Γ env μ) _) Q = _
  rw [Ok_rb]
  simp only [Ok_guard, Ok_rb]
theorem o_evs0 : Ok (X.evs Γ [] env μ) QL = QL [] μ := rfl
theorem o_evs1 (x : X) (r : List X) : Ok (X.evs Γ (x :: r) env μ) QL = Ok (x.ev Γ env μ) fun d μ1 => Ok (X.evs Γ r env μ1) fun ds μ2 => QL (d :: ds) μ2 := by
  show Ok (rb (x.ev Γ env μ) _) QL = _
  simp only [Ok_rb, Ok_ok]
theorem o_slst (x : X) : Ok (Src.ev Γ (.lst x) env μ) QI = Ok (x.ev Γ env μ) fun d μ1 => Ok (dSrc d μ1) QI := by
  show Ok (rb (x.ev Γ env μ) _) QI = _
  rw [Ok_rb]
theorem o_stup (x : X) : Ok (Src.ev Γ (.tup x) env μ) QI = Ok (x.ev Γ env μ) fun d μ1 => Ok (dSrcT d μ1) QI := by
  show Ok (rb (x.ev Γ env μ) _) QI = _
  rw [Ok_rb]
theorem o_rng (xs : List X) : Ok (Src.ev Γ (.rng xs) env μ) QI = Ok (X.evs Γ xs env μ) fun ds μ1 => Ok (dRng ds μ1) QI := by
  show Ok (rb (X.evs Γ xs env μ) _) QI = _
  rw [Ok_rb]
theorem o_enum (x : X) : Ok (Src.ev Γ (.enum x) env μ) QI = Ok (x.ev Γ env μ) fun d μ1 => Ok (dEnum [d] μ1) QI := by
  show Ok (rb (fCons (x.ev Γ) fNil env μ) _) QI = _
  rw [rb_one, Ok_rb]
theorem o_enumT (x : X) : Ok (Src.ev Γ (.enumT x) env μ) QI = Ok (x.ev Γ env μ) fun d μ1 => Ok (dEnumT [d] μ1) QI := by
  show Ok (rb (fCons (x.ev Γ) fNil env μ) _) QI = _
  rw [rb_one, Ok_rb]
theorem o_lset (x : X) : Ok (X.ev Γ (.lset x) env μ) Q = Ok (x.ev Γ env μ) fun d μ1 => Ok (dLSet d μ1) Q := by
  show Ok (rb (x.ev Γ env μ) _) Q = _
  rw [Ok_rb]
theorem o_srtP (lv : Bool) (xs : List X) : Ok (X.ev Γ (.srtP lv xs) env μ) Q = Ok (X.evs Γ xs env μ) fun ds μ1 => Ok (dSortP lv ds μ1) Q := by
  show Ok (rb (X.evs Γ xs env μ) _) Q = _
  rw [Ok_rb]
theorem o_lrg3 (lv : Bool) (xs : List X) : Ok (X.ev Γ (.lrg3 lv xs) env μ) Q = Ok (X.evs Γ xs env μ) fun ds μ1 => Ok (dLrg3 lv ds μ1) Q := by
  show Ok (rb (X.evs Γ xs env μ) _) Q = _
  rw [Ok_rb]
theorem o_maxX (xs : List X) : Ok (X.ev Γ (.maxX xs) env μ) Q = Ok (X.evs Γ xs env μ) fun ds μ1 => Ok (dMaxX ds μ1) Q := by
  show Ok (rb (X.evs Γ xs env μ) _) Q = _
  rw [Ok_rb]
theorem o_callK (f : Nat) (fz : Bool) (x : X) (kn : Str) (y : X) : Ok (X.ev Γ (.callK f fz x kn y) env μ) Q = Ok (x.ev Γ env μ) fun d μ1 => Ok (y.ev Γ env μ1) fun e μ2 => Ok (fnth Γ f 0 fz [d, e] μ2) Q := by
  show Ok (rb (fCons (x.ev Γ) (fCons (y.ev Γ) fNil) env μ) _) Q = _
  rw [rb_two, Ok_rb]
  simp only [Ok_rb]
theorem o_rng3 (xs : List X) : Ok (Src.ev Γ (.rng3 xs) env μ) QI = Ok (X.evs Γ xs env μ) fun ds μ1 => Ok (dRng3 ds μ1) QI := by
  show Ok (rb (X.evs Γ xs env μ) _) QI = _
  rw [Ok_rb]
theorem o_zip (x y : X) : Ok (Src.ev Γ (.zip x y) env μ) QI = Ok (x.ev Γ env μ) fun d μ1 => Ok (y.ev Γ env μ1) fun e μ2 => Ok (dZip [d, e] μ2) QI := by
  show Ok (rb (fCons (x.ev Γ) (fCons (y.ev Γ) fNil) env μ) _) QI = _
  rw [rb_two, Ok_rb]
  simp only [Ok_rb]
end
/-! operations -/
section
variable {Q : D → Sto → Prop} {QI : Sr → Sto → Prop} {μ : Sto} {i j : Int} {lv b b' : Bool} {xs ys : List D}
theorem p_add : Ok (Bop.d lv .add (.int i) (.int j) μ) Q = Q (.int (i + j)) μ := rfl
theorem p_addL : Ok (Bop.d lv .add (.lst b xs) (.lst b' ys) μ) Q = (xs.length + ys.length ≤ LIM ∧ Ok (alloc lv (xs ++ ys) μ) Q) := by
  show Ok (if xs.length + ys.length ≤ LIM then alloc lv (xs ++ ys) μ else none) Q = _
  rw [Ok_guard]
theorem p_addT : Ok (Bop.d lv .add (.tup xs) (.tup ys) μ) Q = (xs.length + ys.length ≤ LIM ∧ Q (.tup (xs ++ ys)) μ) := by
  show Ok (if xs.length + ys.length ≤ LIM then ok (.tup (xs ++ ys)) μ else none) Q = _
  rw [Ok_guard, Ok_ok]
theorem p_sub : Ok (Bop.d lv .sub (.int i) (.int j) μ) Q = Q (.int (i - j)) μ := rfl
theorem p_mul : Ok (Bop.d lv .mul (.int i) (.int j) μ) Q = (mulOk i j = true ∧ Q (.int (i * j)) μ) := by
  show Ok (if mulOk i j = true then ok (.int (i * j)) μ else none) Q = _
  rw [Ok_guard, Ok_ok]
theorem p_mulL : Ok (Bop.d lv .mul (.lst b xs) (.int j) μ) Q = ((j.natAbs ≤ LIM ∧ xs.length * j.toNat ≤ LIM) ∧ Ok (alloc lv (List.replicate j.toNat xs).flatten μ) Q) := by
  show Ok (if j.natAbs ≤ LIM ∧ xs.length * j.toNat ≤ LIM then alloc lv (List.replicate j.toNat xs).flatten μ else none) Q = _
  rw [Ok_guard]
theorem p_div : Ok (Bop.d lv .div (.int i) (.int j) μ) Q = ((0 < j ∧ fits j = true) ∧ Q (.int (i / j)) μ) := by
  show Ok (if (decide (0 < j) && fits j) = true then ok (.int (i / j)) μ else none) Q = _
  rw [Ok_guard, Ok_ok, Bool.and_eq_true, decide_eq_true_iff]
theorem p_mod : Ok (Bop.d lv .mod (.int i) (.int j) μ) Q = (0 < j ∧ Q (.int (i % j)) μ) := by
  show Ok (if 0 < j then ok (.int (i % j)) μ else none) Q = _
  rw [Ok_guard, Ok_ok]
theorem p_pow : Ok (Bop.d lv .pow (.int i) (.int j) μ) Q = (((0 ≤ j ∧ j ≤ 1000) ∧ fits i = true) ∧ Q (.int (i ^ j.toNat)) μ) := by
  show Ok (if (decide (0 ≤ j) && decide (j ≤ 1000) && fits i) = true then ok (.int (i ^ j.toNat)) μ else none) Q = _
  rw [Ok_guard, Ok_ok, Bool.and_eq_true, Bool.and_eq_true, decide_eq_true_iff, decide_eq_true_iff]
theorem p_neg : Ok (dNeg (.int i) μ) Q = Q (.int (-i)) μ := rfl
theorem p_alF : Ok (alloc false xs μ) Q = Q (.lst false xs) μ := rfl
theorem p_alT : Ok (alloc true xs μ) Q = Q (.ref μ.length) (μ ++ [.lst .live xs]) := rfl
theorem p_lst : Ok (dLst lv xs μ) Q = (xs.length ≤ LIM ∧ Ok (alloc lv xs μ) Q) := by
  show Ok (if xs.length ≤ LIM then alloc lv xs μ else none) Q = _
  rw [Ok_guard]
theorem p_tup : Ok (dTup xs μ) Q = (xs.length ≤ LIM ∧ Q (.tup xs) μ) := by
  show Ok (if xs.length ≤ LIM then ok (.tup xs) μ else none) Q = _
  rw [Ok_guard, Ok_ok]
theorem p_not (t : Bool) : Ok (dNot (.bl t) μ) Q = Q (.bl (!t)) μ := rfl
end
/-! the typed data -/
def oi : Option Int → D
  | none => .non
  | some i => .int i
def oP : Option Int → PyData
  | none => .none
  | some i => .int i
def row (b : Bool) (r : List Int) : D := .lst b (r.map .int)
def rP (r : List Int) : PyData := .list (r.map .int)
section
variable {μ : Sto} {n : Nat} {α : Type}
theorem atI_map {β : Type} (f : α → β) (xs : List α) (i : Int) : L2.atI (xs.map f) i = (L2.atI xs i).map f := by
  unfold L2.atI
  rw [List.length_map]
  cases L2.ixN xs.length i with
  | none => rfl
  | some j => simp
theorem atI_pos {xs : List α} {i : Int} (h : 0 ≤ i) (h' : i < xs.length) : L2.atI xs i = some (xs[i.toNat]'(by omega)) := by
  unfold L2.atI L2.ixN
  rw [if_pos h, if_pos h']
  show xs[i.toNat]? = _
  rw [List.getElem?_eq_getElem]
theorem omap_nil {β γ : Type} (f : β → Option γ) : omap f [] = some [] := rfl
theorem omap_cons {β γ : Type} (f : β → Option γ) (x : β) (r : List β) : omap f (x :: r) = (f x).bind fun y => (omap f r).map (y :: ·) := by
  show (match f x, omap f r with
    | some y, some s => some (y :: s)
    | _, _ => none) = _
  cases f x with
  | none => rfl
  | some y =>
    cases omap f r with
    | none => rfl
    | some s => rfl
/-! lent -/
theorem le_int (i : Int) : lend μ n (.int i) = some (.int i) := by cases n <;> rfl
theorem le_bl (i : Bool) : lend μ n (.bl i) = some (.bl i) := by cases n <;> rfl
theorem le_non : lend μ n .non = some .non := by cases n <;> rfl
theorem le_str (x : Str) : lend μ n (.str x) = some (.str x) := by cases n <;> rfl
theorem le_scr (x : List Int) : lend μ n (.scr x) = some (.scr x) := by cases n <;> rfl
theorem le_oi (o : Option Int) : lend μ n (oi o) = some (oi o) := by cases o <;> cases n <;> rfl
theorem le_lst (b : Bool) (xs : List D) : lend μ (n + 1) (.lst b xs) = (omap (lend μ n) xs).map (.lst true) := rfl
theorem le_tup (xs : List D) : lend μ (n + 1) (.tup xs) = (omap (lend μ n) xs).map .tup := rfl
theorem le_ints (xs : List Int) : omap (lend μ n) (xs.map D.int) = some (xs.map D.int) := omap_map (fun i => le_int i) xs
theorem le_bls (xs : List Bool) : omap (lend μ n) (xs.map D.bl) = some (xs.map D.bl) := omap_map (fun i => le_bl i) xs
theorem le_ois (xs : List (Option Int)) : omap (lend μ n) (xs.map oi) = some (xs.map oi) := omap_map (fun i => le_oi i) xs
theorem le_row (b : Bool) (r : List Int) : lend μ (n + 1) (row b r) = some (row true r) := by
  unfold row
  rw [le_lst, le_ints]
  rfl
theorem le_rows (b : Bool) (t : List (List Int)) : omap (lend μ (n + 1)) (t.map (row b)) = some (t.map (row true)) := omap_map (fun r => le_row b r) t
theorem le_ref (k : Nat) : lend μ (n + 1) (.ref k) = match μ[k]? with
    | some (.lst _ xs) => (omap (lend μ n) xs).map (.lst true)
    | some (.dK _ xs) => (okv (lend μ n) xs).map (.dK true)
    | some (.dT _ xs) => (okv (lend μ n) xs).map (.dT true)
    | _ => none := rfl
/-! clean -/
theorem cl_ints : ∀ xs : List Int, D.cleans (xs.map D.int) = true
  | [] => rfl
  | x :: r => cl_ints r
theorem cl_bls : ∀ xs : List Bool, D.cleans (xs.map D.bl) = true
  | [] => rfl
  | x :: r => cl_bls r
theorem cl_oi : ∀ o : Option Int, (oi o).clean = true
  | none => rfl
  | some i => rfl
theorem cl_ois : ∀ xs : List (Option Int), D.cleans (xs.map oi) = true
  | [] => rfl
  | x :: r => by
    show ((oi x).clean && D.cleans (r.map oi)) = true
    rw [cl_oi, cl_ois r]
    rfl
theorem cl_row (r : List Int) : (row false r).clean = true := cl_ints r
theorem cl_rows : ∀ t : List (List Int), D.cleans (t.map (row false)) = true
  | [] => rfl
  | x :: r => by
    show ((row false x).clean && D.cleans (r.map (row false))) = true
    rw [cl_row, cl_rows r]
    rfl
theorem cl_app : ∀ xs ys : List D, D.cleans (xs ++ ys) = (D.cleans xs && D.cleans ys)
  | [], ys => rfl
  | x :: r, ys => by
    show (x.clean && D.cleans (r ++ ys)) = (x.clean && D.cleans r && D.cleans ys)
    rw [cl_app r ys, Bool.and_assoc]
theorem cl_lst (xs : List D) : (D.lst false xs).clean = D.cleans xs := rfl
theorem cl_cons (x : D) (r : List D) : D.cleans (x :: r) = (x.clean && D.cleans r) := rfl
theorem cl_nil : D.cleans [] = true := rfl
theorem cl_int (i : Int) : (D.int i).clean = true := rfl
theorem cl_bl (i : Bool) : (D.bl i).clean = true := rfl
theorem cl_non : D.non.clean = true := rfl
theorem cl_str (x : Str) : (D.str x).clean = true := rfl
theorem cl_tup (xs : List D) : (D.tup xs).clean = D.cleans xs := rfl
/-! frozen -/
theorem fr_int (i : Int) : frz n (.int i) μ = some (.int i, μ) := by cases n <;> rfl
theorem fr_bl (i : Bool) : frz n (.bl i) μ = some (.bl i, μ) := by cases n <;> rfl
theorem fr_non : frz n .non μ = some (.non, μ) := by cases n <;> rfl
theorem fr_str (x : Str) : frz n (.str x) μ = some (.str x, μ) := by cases n <;> rfl
theorem fr_lst (b : Bool) (xs : List D) : frz n (.lst b xs) μ = some (.lst b xs, μ) := by cases n <;> rfl
theorem fr_oi (o : Option Int) : frz n (oi o) μ = some (oi o, μ) := by cases o <;> cases n <;> rfl
theorem fr_row (b : Bool) (r : List Int) : frz n (row b r) μ = some (row b r, μ) := fr_lst b _
theorem fr_tup (xs : List D) : frz (n + 1) (.tup xs) μ = (frs (frz n) xs μ).map fun p => (.tup p.1, p.2) := rfl
theorem fr_nil {f : D → Sto → Option (D × Sto)} : frs f [] μ = some ([], μ) := rfl
theorem fr_cons {f : D → Sto → Option (D × Sto)} (d : D) (r : List D) : frs f (d :: r) μ = (f d μ).bind fun p => (frs f r p.2).map fun q => (p.1 :: q.1, q.2) := by
  show (match f d μ with
    | none => none
    | some (e, μ1) => match frs f r μ1 with
      | none => none
      | some (es, μ2) => some (e :: es, μ2)) = _
  cases f d μ with
  | none => rfl
  | some p =>
    cases e : frs f r p.2 with
    | none => simp [e]
    | some q => simp [e]
theorem fr_id {f : D → Sto → Option (D × Sto)} {xs : List D} (h : ∀ x ∈ xs, f x μ = some (x, μ)) : frs f xs μ = some (xs, μ) := by
  induction xs with
  | nil => rfl
  | cons x r ih =>
    rw [fr_cons, h x List.mem_cons_self]
    show (frs f r μ).map _ = _
    rw [ih fun y hy => h y (List.mem_cons_of_mem _ hy)]
    rfl
theorem fr_map (f : α → D) (xs : List α) (h : ∀ x, frz n (f x) μ = some (f x, μ)) : frs (frz n) (xs.map f) μ = some (xs.map f, μ) := fr_id fun x hx => by
  obtain ⟨y, _, rfl⟩ := List.mem_map.mp hx
  exact h y
theorem fr_ints (xs : List Int) : frs (frz n) (xs.map D.int) μ = some (xs.map D.int, μ) := fr_map _ xs fun i => fr_int i
theorem fr_ois (xs : List (Option Int)) : frs (frz n) (xs.map oi) μ = some (xs.map oi, μ) := fr_map _ xs fun i => fr_oi i
theorem fr_rows (b : Bool) (xs : List (List Int)) : frs (frz n) (xs.map (row b)) μ = some (xs.map (row b), μ) := fr_map _ xs fun i => fr_row b i
theorem fr_ref (k : Nat) : frz (n + 1) (.ref k) μ = match μ[k]? with
    | some (.lst .fz xs) => some (.lst false xs, μ)
    | some (.lst .live xs) => (frs (frz n) xs μ).map fun p => (.lst false p.1, p.2.set k (.lst .fz p.1))
    | some (.dK .fz xs) => some (.dK false xs, μ)
    | some (.dK .live xs) => (fvs (frz n) xs μ).map fun p => (.dK false p.1, p.2.set k (.dK .fz p.1))
    | some (.dT .fz xs) => some (.dT false xs, μ)
    | some (.dT .live xs) => (fvs (frz n) xs μ).map fun p => (.dT false p.1, p.2.set k (.dT .fz p.1))
    | _ => none := rfl
/-! a deal -/
def drow (b : Bool) (d : List (Option Int)) : D := .lst b (d.map oi)
theorem le_drow (b : Bool) (r : List (Option Int)) : lend μ (n + 1) (drow b r) = some (drow true r) := by
  unfold drow
  rw [le_lst, le_ois]
  rfl
theorem le_drows (b : Bool) (t : List (List (Option Int))) : omap (lend μ (n + 1)) (t.map (drow b)) = some (t.map (drow true)) := omap_map (fun r => le_drow b r) t
theorem cl_drow (r : List (Option Int)) : (drow false r).clean = true := cl_ois r
theorem cl_map {f : α → D} (h : ∀ x, (f x).clean = true) : ∀ xs : List α, D.cleans (xs.map f) = true
  | [] => rfl
  | x :: r => by
    show ((f x).clean && D.cleans (r.map f)) = true
    rw [h, cl_map h r]
    rfl
theorem cl_drows (t : List (List (Option Int))) : D.cleans (t.map (drow false)) = true := cl_map cl_drow t
theorem fr_drow (b : Bool) (r : List (Option Int)) : frz n (drow b r) μ = some (drow b r, μ) := fr_lst b _
theorem fr_drows (b : Bool) (xs : List (List (Option Int))) : frs (frz n) (xs.map (drow b)) μ = some (xs.map (drow b), μ) := fr_map _ xs fun i => fr_drow b i
/-! as a datum -/
theorem py_int (i : Int) : py μ n (.int i) = some (.int i) := by cases n <;> rfl
theorem py_bl (i : Bool) : py μ n (.bl i) = some (.bool i) := by cases n <;> rfl
theorem py_non : py μ n .non = some .none := by cases n <;> rfl
theorem py_str (x : Str) : py μ n (.str x) = some (.str x) := by cases n <;> rfl
theorem py_oi (o : Option Int) : py μ n (oi o) = some (oP o) := by cases o <;> cases n <;> rfl
theorem py_lst (b : Bool) (xs : List D) : py μ (n + 1) (.lst b xs) = (omap (py μ n) xs).map .list := rfl
theorem py_tup (xs : List D) : py μ (n + 1) (.tup xs) = (omap (py μ n) xs).map .tuple := rfl
theorem py_scr (xs : List Int) : py μ (n + 1) (.scr xs) = some (rP xs) := rfl
theorem py_ints (xs : List Int) : omap (py μ n) (xs.map D.int) = some (xs.map PyData.int) := omap_map (fun i => py_int i) xs
theorem py_bls (xs : List Bool) : omap (py μ n) (xs.map D.bl) = some (xs.map PyData.bool) := omap_map (fun i => py_bl i) xs
theorem py_ois (xs : List (Option Int)) : omap (py μ n) (xs.map oi) = some (xs.map oP) := omap_map (fun i => py_oi i) xs
theorem py_row (b : Bool) (r : List Int) : py μ (n + 1) (row b r) = some (rP r) := by
  unfold row
  rw [py_lst, py_ints]
  rfl
theorem py_rows (b : Bool) (t : List (List Int)) : omap (py μ (n + 1)) (t.map (row b)) = some (t.map rP) := omap_map (fun r => py_row b r) t
def dP (r : List (Option Int)) : PyData := .list (r.map oP)
theorem py_drow (b : Bool) (r : List (Option Int)) : py μ (n + 1) (drow b r) = some (dP r) := by
  unfold drow
  rw [py_lst, py_ois]
  rfl
theorem py_drows (b : Bool) (t : List (List (Option Int))) : omap (py μ (n + 1)) (t.map (drow b)) = some (t.map dP) := omap_map (fun r => py_drow b r) t
theorem py_ref (k : Nat) : py μ (n + 1) (.ref k) = match μ[k]? with
    | some (.lst _ xs) => (omap (py μ n) xs).map .list
    | _ => none := rfl
theorem ev_int (i j : Int) : PyData.eqv (.int i) (.int j) = decide (i = j) := by simp only [PyData.eqv]; exact Bool.eq_iff_iff.mpr (by simp)
theorem ev_bl (i j : Bool) : PyData.eqv (.bool i) (.bool j) = (i == j) := by simp only [PyData.eqv]
theorem ev_str (i j : Str) : PyData.eqv (.str i) (.str j) = decide (i = j) := by simp only [PyData.eqv]; exact Bool.eq_iff_iff.mpr (by simp)
theorem ev_oi (a b : Option Int) : PyData.eqv (oP a) (oP b) = decide (a = b) := by
  cases a <;> cases b <;> simp [oP, PyData.eqv, ev_int]
theorem ev_oI (a : Option Int) (i : Int) : PyData.eqv (oP a) (.int i) = decide (a = some i) := ev_oi a (some i)
theorem ev_Io (a : Option Int) (i : Int) : PyData.eqv (.int i) (oP a) = decide (some i = a) := ev_oi (some i) a
theorem ev_oN (a : Option Int) : PyData.eqv (oP a) .none = decide (a = none) := ev_oi a none
theorem ev_No (a : Option Int) : PyData.eqv .none (oP a) = decide (none = a) := ev_oi none a
theorem ev_maps {f : α → PyData} [DecidableEq α] (h : ∀ a b, PyData.eqv (f a) (f b) = decide (a = b)) : ∀ xs ys : List α, PyData.eqvAll (xs.map f) (ys.map f) = decide (xs = ys)
  | [], [] => by simp [PyData.eqvAll]
  | [], _ :: _ => by simp [PyData.eqvAll]
  | _ :: _, [] => by simp [PyData.eqvAll]
  | x :: xs, y :: ys => by
    rw [List.map_cons, List.map_cons, PyData.eqvAll, h, ev_maps h xs ys]
    simp
theorem ev_lists {f : α → PyData} [DecidableEq α] (h : ∀ a b, PyData.eqv (f a) (f b) = decide (a = b)) (xs ys : List α) : PyData.eqv (.list (xs.map f)) (.list (ys.map f)) = decide (xs = ys) := by
  simp only [PyData.eqv]
  exact ev_maps h xs ys
theorem ev_ints (xs ys : List Int) : PyData.eqv (.list (xs.map .int)) (.list (ys.map .int)) = decide (xs = ys) := ev_lists ev_int xs ys
theorem ev_ints0 (xs : List Int) : PyData.eqv (.list (xs.map .int)) (.list []) = decide (xs = []) := ev_ints xs []
theorem ev_0ints (xs : List Int) : PyData.eqv (.list []) (.list (xs.map .int)) = decide ([] = xs) := ev_ints [] xs
theorem ev_ois0 (xs : List (Option Int)) : PyData.eqv (.list (xs.map oP)) (.list []) = decide (xs = []) := ev_lists ev_oi xs []
theorem ev_row0 (xs : List Int) : PyData.eqv (rP xs) (.list []) = decide (xs = []) := ev_ints0 xs
theorem ev_row (xs ys : List Int) : PyData.eqv (rP xs) (rP ys) = decide (xs = ys) := ev_ints xs ys
theorem ev_ois (xs ys : List (Option Int)) : PyData.eqv (.list (xs.map oP)) (.list (ys.map oP)) = decide (xs = ys) := ev_lists ev_oi xs ys
theorem ev_drow (xs ys : List (Option Int)) : PyData.eqv (dP xs) (dP ys) = decide (xs = ys) := ev_ois xs ys
theorem ev_drows (xs ys : List (List (Option Int))) : PyData.eqv (.list (xs.map dP)) (.list (ys.map dP)) = decide (xs = ys) := ev_lists ev_drow xs ys
theorem ev_rows (xs ys : List (List Int)) : PyData.eqv (.list (xs.map rP)) (.list (ys.map rP)) = decide (xs = ys) := ev_lists ev_row xs ys
theorem ev_list (xs ys : List PyData) : PyData.eqv (.list xs) (.list ys) = PyData.eqvAll xs ys := by simp only [PyData.eqv]
theorem ev_cons (x y : PyData) (xs ys : List PyData) : PyData.eqvAll (x :: xs) (y :: ys) = (PyData.eqv x y && PyData.eqvAll xs ys) := by rw [PyData.eqvAll]
theorem ev_nil : PyData.eqvAll [] [] = true := by rw [PyData.eqvAll]
end
def cmpP (k : Cmp) (p q : Option PyData) (K : Bool → Prop) : Prop := match p, q with
  | some p, some q => match k.g p q with
    | some b => K b
    | none => False
  | _, _ => False
section
variable {Q : D → Sto → Prop} {QI : Sr → Sto → Prop} {QU : Unit → Sto → Prop} {μ : Sto} {i j : Int} {lv b b' : Bool} {xs ys : List D} {d e : D} {K : Bool → Prop} {p q : PyData}
theorem p_cmp (k : Cmp) : Ok (dCmp k d e μ) Q = cmpP k (py μ 8 d) (py μ 8 e) fun b => Q (.bl b) μ := by
  unfold dCmp cmpP
  cases py μ 8 d with
  | none => rfl
  | some p =>
    cases py μ 8 e with
    | none => rfl
    | some q =>
      simp only
      cases k.g p q <;> rfl
theorem c_eq : cmpP .eq (some p) (some q) K = K (PyData.eqv p q) := rfl
theorem c_ne : cmpP .ne (some p) (some q) K = K (!PyData.eqv p q) := rfl
theorem c_lt : cmpP .lt (some (.int i)) (some (.int j)) K = K (decide (i < j)) := by
  show K (PySem.W.dataLt (.int i) (.int j)) = _
  rw [PySem.W.dataLt_int]
theorem c_gt : cmpP .gt (some (.int i)) (some (.int j)) K = K (decide (j < i)) := by
  show K (PySem.W.dataLt (.int j) (.int i)) = _
  rw [PySem.W.dataLt_int]
theorem c_le : cmpP .le (some (.int i)) (some (.int j)) K = K (decide (i ≤ j)) := by
  show K (!PySem.W.dataLt (.int j) (.int i)) = _
  rw [PySem.W.dataLt_int]
  congr 1
  by_cases h : j < i
  · simp [h]
  · simp [h]
    omega
theorem c_ge : cmpP .ge (some (.int i)) (some (.int j)) K = K (decide (j ≤ i)) := by
  show K (!PySem.W.dataLt (.int i) (.int j)) = _
  rw [PySem.W.dataLt_int]
  congr 1
  by_cases h : i < j
  · simp [h]
  · simp [h]
    omega
theorem c_in (zs : List PyData) : cmpP .inn (some p) (some (.list zs)) K = K (zs.any fun z => PyData.eqv z p) := rfl
theorem c_nin (zs : List PyData) : cmpP .nin (some p) (some (.list zs)) K = K (!zs.any fun z => PyData.eqv z p) := rfl
theorem anyI (zs : List Int) (i : Int) : ((zs.map PyData.int).any fun z => PyData.eqv z (.int i)) = decide (i ∈ zs) := by
  rw [List.any_map, show ((fun z => PyData.eqv z (.int i)) ∘ PyData.int) = fun z => decide (z = i) from funext fun z => ev_int z i]
  exact Bool.eq_iff_iff.mpr (by simp)
theorem c_inT (zs : List PyData) : cmpP .inn (some p) (some (.tuple zs)) K = K (zs.any fun z => PyData.eqv z p) := rfl
theorem c_ninT (zs : List PyData) : cmpP .nin (some p) (some (.tuple zs)) K = K (!zs.any fun z => PyData.eqv z p) := rfl
section
variable {a1 b1 a2 b2 : Int}
theorem al2 : PySem.W.alike (.tuple [.int a1, .int b1]) (.tuple [.int a2, .int b2]) = true := by
  simp [PySem.W.alike, PySem.W.alikeAll]
theorem c_ltT : cmpP .lt (some (.tuple [.int a1, .int b1])) (some (.tuple [.int a2, .int b2])) K = K (decide (a1 < a2 ∨ (a1 = a2 ∧ b1 < b2))) := by
  show (match (if (PySem.W.alike (.tuple [.int a1, .int b1]) (.tuple [.int a2, .int b2]) && true) = true then some (PySem.W.dataLt (.tuple [.int a1, .int b1]) (.tuple [.int a2, .int b2])) else none) with
    | some b => K b
    | none => False) = _
  rw [al2, PySem.W.dataLt_ii]
  rfl
theorem c_gtT : cmpP .gt (some (.tuple [.int a1, .int b1])) (some (.tuple [.int a2, .int b2])) K = K (decide (a2 < a1 ∨ (a2 = a1 ∧ b2 < b1))) := by
  show (match (if (PySem.W.alike (.tuple [.int a1, .int b1]) (.tuple [.int a2, .int b2]) && true) = true then some (PySem.W.dataLt (.tuple [.int a2, .int b2]) (.tuple [.int a1, .int b1])) else none) with
    | some b => K b
    | none => False) = _
  rw [al2, PySem.W.dataLt_ii]
  rfl
theorem c_leT : cmpP .le (some (.tuple [.int a1, .int b1])) (some (.tuple [.int a2, .int b2])) K = K (!decide (a2 < a1 ∨ (a2 = a1 ∧ b2 < b1))) := by
  show (match (if (PySem.W.alike (.tuple [.int a1, .int b1]) (.tuple [.int a2, .int b2]) && true) = true then some (!PySem.W.dataLt (.tuple [.int a2, .int b2]) (.tuple [.int a1, .int b1])) else none) with
    | some b => K b
    | none => False) = _
  rw [al2, PySem.W.dataLt_ii]
  rfl
end
theorem ev_tup (xs ys : List PyData) : PyData.eqv (.tuple xs) (.tuple ys) = PyData.eqvAll xs ys := by simp only [PyData.eqv]
theorem ev_listc (x y : PyData) (xs ys : List PyData) : PyData.eqv (.list (x :: xs)) (.list (y :: ys)) = (PyData.eqv x y && PyData.eqvAll xs ys) := by rw [ev_list, ev_cons]
theorem ev_list0 (x : PyData) (xs : List PyData) : PyData.eqvAll (x :: xs) [] = false := by rw [PyData.eqvAll] <;> simp
theorem ev_0list (x : PyData) (xs : List PyData) : PyData.eqvAll [] (x :: xs) = false := by rw [PyData.eqvAll] <;> simp
theorem p_isN : Ok (dIsN d μ) Q = Q (.bl (isNon d)) μ := rfl
theorem p_notN : Ok (dNotN d μ) Q = Q (.bl (!isNon d)) μ := rfl
theorem non_oi (o : Option Int) : isNon (oi o) = o.isNone := by cases o <;> rfl
theorem seeL_ref (n : Nat) : seeL μ (.ref n) = match μ[n]? with
  | some (.lst _ xs) => some xs
  | _ => none := rfl
def cellP (o : Option Cell) (K : List D → Prop) : Prop := match o with
  | some (.lst _ xs) => K xs
  | _ => False
theorem cell_l {K : List D → Prop} (m : Mode) : cellP (some (.lst m xs)) K = K xs := rfl
theorem p_ix : Ok (dIx (.lst b xs) (.int i) μ) Q = ∃ x, L2.atI xs i = some x ∧ Q x μ := by
  show Ok (match L2.atI xs i with
    | some x => ok x μ
    | none => none) Q = _
  cases L2.atI xs i with
  | none => simp [Ok_none]
  | some x => simp [Ok_ok]
theorem p_ixT : Ok (dIx (.tup xs) (.int i) μ) Q = ∃ x, L2.atI xs i = some x ∧ Q x μ := by
  show Ok (match L2.atI xs i with
    | some x => ok x μ
    | none => none) Q = _
  cases L2.atI xs i with
  | none => simp [Ok_none]
  | some x => simp [Ok_ok]
theorem p_ixS (ns : List Int) : Ok (dIx (.scr ns) (.int i) μ) Q = ∃ x, L2.atI ns i = some x ∧ Q (.int x) μ := by
  show Ok (match L2.atI (ns.map D.int) i with
    | some x => ok x μ
    | none => none) Q = _
  rw [atI_map]
  cases L2.atI ns i with
  | none => simp [Ok_none]
  | some x => simp [Ok_ok]
theorem p_ixR (n : Nat) : Ok (dIx (.ref n) (.int i) μ) Q = cellP μ[n]? fun xs => ∃ x, L2.atI xs i = some x ∧ Q x μ := by
  show Ok (match seeL μ (.ref n) with
    | some xs => match L2.atI xs i with
      | some x => ok x μ
      | none => none
    | none => none) Q = _
  rw [seeL_ref]
  unfold cellP
  cases μ[n]? with
  | none => rfl
  | some c =>
    cases c with
    | lst m xs =>
      simp only
      cases L2.atI xs i with
      | none => simp [Ok_none]
      | some x => simp [Ok_ok]
    | _ => rfl
theorem at_m {α β : Type} {f : α → β} {zs : List α} {P : β → Prop} : (∃ x, L2.atI (zs.map f) i = some x ∧ P x) = ∃ x, L2.atI zs i = some x ∧ P (f x) := by
  rw [atI_map]
  cases L2.atI zs i with
  | none => simp
  | some x => simp
theorem at_0 {α : Type} (x : α) (r : List α) : L2.atI (x :: r) 0 = some x := by
  rw [atI_pos (by decide) (by rw [List.length_cons]; omega)]
  rfl
theorem at_1 {α : Type} (x y : α) (r : List α) : L2.atI (x :: y :: r) 1 = some y := by
  rw [atI_pos (by decide) (by rw [List.length_cons, List.length_cons]; omega)]
  rfl
theorem at_2 {α : Type} (x y z : α) (r : List α) : L2.atI (x :: y :: z :: r) 2 = some z := by
  rw [atI_pos (by decide) (by rw [List.length_cons, List.length_cons, List.length_cons]; omega)]
  rfl
theorem oi_some (i : Int) : oi (some i) = .int i := rfl
theorem oi_none : oi none = .non := rfl
theorem oP_some (i : Int) : oP (some i) = .int i := rfl
theorem oP_none : oP none = .none := rfl
theorem at_ok {α : Type} {zs : List α} {P : α → Prop} (h : 0 ≤ i) (h' : i < zs.length) (q : P (zs[i.toNat]'(by omega))) : ∃ x, L2.atI zs i = some x ∧ P x := ⟨_, atI_pos h h', q⟩
theorem p_len : Ok (BI.d lv .len [.lst b xs] μ) Q = Q (.int (xs.length : Nat)) μ := rfl
theorem p_lenT : Ok (BI.d lv .len [.tup xs] μ) Q = Q (.int (xs.length : Nat)) μ := rfl
theorem p_lenS (ns : List Int) : Ok (BI.d lv .len [.scr ns] μ) Q = Q (.int (ns.length : Nat)) μ := by
  show Q (.int ((ns.map D.int).length : Nat)) μ = _
  rw [List.length_map]
theorem p_lenR (n : Nat) : Ok (BI.d lv .len [.ref n] μ) Q = cellP μ[n]? fun xs => Q (.int (xs.length : Nat)) μ := by
  show Ok (match seeL μ (.ref n) with
    | some xs => ok (.int (xs.length : Int)) μ
    | none => none) Q = _
  rw [seeL_ref]
  unfold cellP
  cases μ[n]? with
  | none => rfl
  | some c => cases c <;> rfl
theorem p_list : Ok (BI.d lv .list [.lst b xs] μ) Q = Ok (alloc lv xs μ) Q := rfl
theorem p_listS (ns : List Int) : Ok (BI.d lv .list [.scr ns] μ) Q = Ok (alloc lv (ns.map D.int) μ) Q := rfl
theorem p_listR (n : Nat) : Ok (BI.d lv .list [.ref n] μ) Q = cellP μ[n]? fun xs => Ok (alloc lv xs μ) Q := by
  show Ok (match seeL μ (.ref n) with
    | some xs => alloc lv xs μ
    | none => none) Q = _
  rw [seeL_ref]
  unfold cellP
  cases μ[n]? with
  | none => rfl
  | some c => cases c <;> rfl
theorem p_all (bs : List Bool) : Ok (BI.d lv .all [.lst b (bs.map D.bl)] μ) Q = Q (.bl (bs.all id)) μ := by
  show Ok (match (some (bs.map D.bl)).bind boolsD with
    | some xs => ok (.bl (xs.all id)) μ
    | none => none) Q = _
  rw [Option.bind_some, bools_map]
  rfl
theorem p_any (bs : List Bool) : Ok (BI.d lv .any [.lst b (bs.map D.bl)] μ) Q = Q (.bl (bs.any id)) μ := by
  show Ok (match (some (bs.map D.bl)).bind boolsD with
    | some xs => ok (.bl (xs.any id)) μ
    | none => none) Q = _
  rw [Option.bind_some, bools_map]
  rfl
theorem p_sum (ns : List Int) : Ok (BI.d lv .sum [.lst b (ns.map D.int)] μ) Q = Q (.int ns.sum) μ := by
  show Ok (match (some (ns.map D.int)).bind intsD with
    | some xs => ok (.int xs.sum) μ
    | none => none) Q = _
  rw [Option.bind_some, ints_map]
  rfl
theorem p_allM {α : Type} (zs : List α) (g : α → Bool) : Ok (BI.d lv .all [.lst b (zs.map fun x => D.bl (g x))] μ) Q = Q (.bl (zs.all g)) μ := by
  have : (zs.map fun x => D.bl (g x)) = (zs.map g).map D.bl := by rw [List.map_map]; rfl
  rw [this, p_all, List.all_map]
  rfl
theorem p_anyM {α : Type} (zs : List α) (g : α → Bool) : Ok (BI.d lv .any [.lst b (zs.map fun x => D.bl (g x))] μ) Q = Q (.bl (zs.any g)) μ := by
  have : (zs.map fun x => D.bl (g x)) = (zs.map g).map D.bl := by rw [List.map_map]; rfl
  rw [this, p_any, List.any_map]
  rfl
theorem p_sumM {α : Type} (zs : List α) (g : α → Int) : Ok (BI.d lv .sum [.lst b (zs.map fun x => D.int (g x))] μ) Q = Q (.int (zs.map g).sum) μ := by
  have : (zs.map fun x => D.int (g x)) = (zs.map g).map D.int := by rw [List.map_map]; rfl
  rw [this, p_sum]
theorem p_minR (n : Nat) : Ok (BI.d lv .min [.ref n] μ) Q = cellP μ[n]? fun xs => Ok (BI.d lv .min [.lst false xs] μ) Q := by
  unfold BI.d
  simp only [bInts, bSum, bBools, bSorted]
  rw [seeL_ref]
  unfold cellP
  cases μ[n]? with
  | none => rfl
  | some c => cases c <;> rfl
theorem p_maxR (n : Nat) : Ok (BI.d lv .max [.ref n] μ) Q = cellP μ[n]? fun xs => Ok (BI.d lv .max [.lst false xs] μ) Q := by
  unfold BI.d
  simp only [bInts, bSum, bBools, bSorted]
  rw [seeL_ref]
  unfold cellP
  cases μ[n]? with
  | none => rfl
  | some c => cases c <;> rfl
theorem p_sumR (n : Nat) : Ok (BI.d lv .sum [.ref n] μ) Q = cellP μ[n]? fun xs => Ok (BI.d lv .sum [.lst false xs] μ) Q := by
  unfold BI.d
  simp only [bInts, bSum, bBools, bSorted]
  rw [seeL_ref]
  unfold cellP
  cases μ[n]? with
  | none => rfl
  | some c => cases c <;> rfl
theorem p_allR (n : Nat) : Ok (BI.d lv .all [.ref n] μ) Q = cellP μ[n]? fun xs => Ok (BI.d lv .all [.lst false xs] μ) Q := by
  unfold BI.d
  simp only [bInts, bSum, bBools, bSorted]
  rw [seeL_ref]
  unfold cellP
  cases μ[n]? with
  | none => rfl
  | some c => cases c <;> rfl
theorem p_anyR (n : Nat) : Ok (BI.d lv .any [.ref n] μ) Q = cellP μ[n]? fun xs => Ok (BI.d lv .any [.lst false xs] μ) Q := by
  unfold BI.d
  simp only [bInts, bSum, bBools, bSorted]
  rw [seeL_ref]
  unfold cellP
  cases μ[n]? with
  | none => rfl
  | some c => cases c <;> rfl
theorem p_sortedR (n : Nat) : Ok (BI.d lv .sorted [.ref n] μ) Q = cellP μ[n]? fun xs => Ok (BI.d lv .sorted [.lst false xs] μ) Q := by
  unfold BI.d
  simp only [bInts, bSum, bBools, bSorted]
  rw [seeL_ref]
  unfold cellP
  cases μ[n]? with
  | none => rfl
  | some c => cases c <;> rfl
theorem p_max2 : Ok (BI.d lv .max2 [.int i, .int j] μ) Q = Q (.int (if j > i then j else i)) μ := rfl
theorem p_min2 : Ok (BI.d lv .min2 [.int i, .int j] μ) Q = Q (.int (if j < i then j else i)) μ := rfl
theorem p_slice (lo hi : Option Int) : Ok (dSlice lv (.lst b xs) lo hi μ) Q = Ok (alloc lv (cut xs lo hi) μ) Q := rfl
theorem p_sliceS (ns : List Int) (lo hi : Option Int) : Ok (dSlice lv (.scr ns) lo hi μ) Q = Ok (alloc lv (cut (ns.map D.int) lo hi) μ) Q := rfl
theorem p_sliceR (n : Nat) (lo hi : Option Int) : Ok (dSlice lv (.ref n) lo hi μ) Q = cellP μ[n]? fun xs => Ok (alloc lv (cut xs lo hi) μ) Q := by
  show Ok (match seeL μ (.ref n) with
    | some xs => alloc lv (cut xs lo hi) μ
    | none => none) Q = _
  rw [seeL_ref]
  unfold cellP
  cases μ[n]? with
  | none => rfl
  | some c => cases c <;> rfl
theorem p_revL : Ok (dRev lv (.lst b xs) μ) Q = Ok (alloc lv xs.reverse μ) Q := rfl
theorem p_revS (ns : List Int) : Ok (dRev lv (.scr ns) μ) Q = Ok (alloc lv (ns.map D.int).reverse μ) Q := rfl
theorem p_revR (n : Nat) : Ok (dRev lv (.ref n) μ) Q = cellP μ[n]? fun xs => Ok (alloc lv xs.reverse μ) Q := by
  show Ok (match seeL μ (.ref n) with
    | some xs => alloc lv xs.reverse μ
    | none => none) Q = _
  rw [seeL_ref]
  unfold cellP
  cases μ[n]? with
  | none => rfl
  | some c => cases c <;> rfl
theorem cut_map {α β : Type} (f : α → β) (zs : List α) (lo hi : Option Int) : cut (zs.map f) lo hi = (cut zs lo hi).map f := by
  unfold cut
  rw [List.length_map, List.map_take, List.map_drop]
theorem cut_take {α : Type} (zs : List α) {h : Int} (p : 0 ≤ h) : cut zs none (some h) = zs.take h.toNat := by
  unfold cut HT.sIx
  simp only [List.drop_zero, Nat.sub_zero]
  rw [if_neg (by omega)]
  apply List.ext_getElem?
  intro i
  simp only [List.getElem?_take]
  by_cases q : i < zs.length
  · simp only [Nat.lt_min, q, and_true]
  · rw [List.getElem?_eq_none (by omega)]
    simp
theorem cut_drop {α : Type} (zs : List α) {h : Int} (p : 0 ≤ h) : cut zs (some h) none = zs.drop h.toNat := by
  unfold cut HT.sIx
  simp only
  rw [if_neg (by omega)]
  by_cases q : h.toNat ≤ zs.length
  · rw [Nat.min_eq_left q, List.take_of_length_le (by rw [List.length_drop] <;> omega)]
  · rw [Nat.min_eq_right (by omega), List.drop_of_length_le (Nat.le_refl _), List.drop_of_length_le (by omega), List.take_nil]
theorem p_src : Ok (dSrc (.lst b xs) μ) QI = QI (.fix xs) μ := rfl
theorem p_srcS (ns : List Int) : Ok (dSrc (.scr ns) μ) QI = QI (.fix (ns.map D.int)) μ := rfl
theorem p_srcT : Ok (dSrcT (.tup xs) μ) QI = QI (.fix xs) μ := rfl
def rgi (lo : Int) (n : Nat) : List Int := (List.range n).map fun i => lo + (i : Nat)
theorem rgi_len (lo : Int) (n : Nat) : (rgi lo n).length = n := by simp [rgi]
theorem rgi_get (lo : Int) (n i : Nat) (h : i < (rgi lo n).length) : (rgi lo n)[i] = lo + (i : Nat) := by simp [rgi]
theorem rangeD_eq (lo : Int) (n : Nat) : rangeD lo n = (rgi lo n).map D.int := by
  unfold rangeD rgi
  rw [List.map_map]
  rfl
theorem p_rng1 : Ok (dRng [.int j] μ) QI = ((j.toNat ≤ LIM ∧ -(2 ^ 62) ≤ j) ∧ QI (.fix ((rgi 0 j.toNat).map D.int)) μ) := by
  show Ok (if j.toNat ≤ LIM ∧ -(2 ^ 62) ≤ j then ok (.fix (rangeD 0 j.toNat)) μ else none) QI = _
  rw [Ok_guard, Ok_ok, rangeD_eq]
theorem p_rng2 : Ok (dRng [.int i, .int j] μ) QI = (((-(2 ^ 61) ≤ i ∧ i ≤ 2 ^ 61) ∧ (-(2 ^ 61) ≤ j ∧ j ≤ 2 ^ 61) ∧ (j - i).toNat ≤ LIM) ∧ QI (.fix ((rgi i (j - i).toNat).map D.int)) μ) := by
  show Ok (if (-(2 ^ 61) ≤ i ∧ i ≤ 2 ^ 61) ∧ (-(2 ^ 61) ≤ j ∧ j ≤ 2 ^ 61) ∧ (j - i).toNat ≤ LIM then ok (.fix (rangeD i (j - i).toNat)) μ else none) QI = _
  rw [Ok_guard, Ok_ok, rangeD_eq]
theorem p_rng3 {c : Int} : Ok (dRng3 [.int i, .int j, .int c] μ) QI = (rgOk i j c ∧ QI (.fix ((rgc i c (rgN i j c)).map D.int)) μ) := by
  show Ok (if rgOk i j c then ok (.fix ((rgc i c (rgN i j c)).map D.int)) μ else none) QI = _
  rw [Ok_guard, Ok_ok]
theorem p_lrg3 {c : Int} : Ok (dLrg3 lv [.int i, .int j, .int c] μ) Q = (rgOk i j c ∧ Ok (alloc lv ((rgc i c (rgN i j c)).map D.int) μ) Q) := by
  show Ok (if rgOk i j c then alloc lv ((rgc i c (rgN i j c)).map D.int) μ else none) Q = _
  rw [Ok_guard]
theorem rgN_neg : rgN i j (-1) = (i - j).toNat := by
  unfold rgN
  rw [PySem.W.rangeSize_downNat]
  rfl
theorem p_isB {neg c z : Bool} : Ok (dIsB neg (.bl c) (.bl z) μ) Q = Q (.bl (if neg then c != z else c == z)) μ := rfl
theorem p_lrg1 : Ok (dLrg lv [.int j] μ) Q = ((j.toNat ≤ LIM ∧ -(2 ^ 61) ≤ j) ∧ Ok (alloc lv ((rgi 0 j.toNat).map D.int) μ) Q) := by
  show Ok (if j.toNat ≤ LIM ∧ -(2 ^ 61) ≤ j then alloc lv (rangeD 0 j.toNat) μ else none) Q = _
  rw [Ok_guard, rangeD_eq]
theorem p_lrg2 : Ok (dLrg lv [.int i, .int j] μ) Q = (((-(2 ^ 61) ≤ i ∧ i ≤ 2 ^ 61) ∧ (-(2 ^ 61) ≤ j ∧ j ≤ 2 ^ 61) ∧ (j - i).toNat ≤ LIM) ∧ Ok (alloc lv ((rgi i (j - i).toNat).map D.int) μ) Q) := by
  show Ok (if (-(2 ^ 61) ≤ i ∧ i ≤ 2 ^ 61) ∧ (-(2 ^ 61) ≤ j ∧ j ≤ 2 ^ 61) ∧ (j - i).toNat ≤ LIM then alloc lv (rangeD i (j - i).toNat) μ else none) Q = _
  rw [Ok_guard, rangeD_eq]
theorem p_enum : Ok (dEnum [.lst b xs] μ) QI = QI (.fix (enumD 0 xs)) μ := rfl
theorem p_enumT : Ok (dEnumT [.tup xs] μ) QI = QI (.fix (enumD 0 xs)) μ := rfl
theorem p_lset (ns : List Int) : Ok (dLSet (.lst b (ns.map D.int)) μ) Q = (ns.length ≤ 1000 ∧ Q (.int (lsetN ns : Nat)) μ) := by
  show Ok (match (some (ns.map D.int)).bind intsD with
    | some ns => if ns.length ≤ 1000 then ok (.int (lsetN ns : Nat)) μ else none
    | none => none) Q = _
  rw [Option.bind_some, ints_map]
  show Ok (if ns.length ≤ 1000 then ok (.int (lsetN ns : Nat)) μ else none) Q = _
  rw [Ok_guard, Ok_ok]
theorem pairs_map : ∀ ps : List (Int × Int), pairsD (ps.map pairD) = some ps
  | [] => rfl
  | p :: r => by
    show (pairsD (r.map pairD)).map ((p.1, p.2) :: ·) = _
    rw [pairs_map r]
    rfl
theorem p_srtP (ps : List (Int × Int)) : Ok (dSortP lv [.lst b (ps.map pairD)] μ) Q = Ok (alloc lv ((psort ps).map pairD) μ) Q := by
  show Ok (match (some (ps.map pairD)).bind pairsD with
    | some ps => alloc lv ((psort ps).map pairD) μ
    | none => none) Q = _
  rw [Option.bind_some, pairs_map]
theorem p_listT : Ok (BI.d lv .list [.tup xs] μ) Q = Ok (alloc lv xs μ) Q := rfl
theorem p_tupL : Ok (BI.d lv .tuple [.lst b xs] μ) Q = Q (.tup xs) μ := rfl
theorem p_sliceT (lo hi : Option Int) : Ok (dSlice lv (.tup xs) lo hi μ) Q = Q (.tup (cut xs lo hi)) μ := rfl
theorem p_divmod : Ok (BI.d lv .divmod [.int i, .int j] μ) Q = (((0 < j ∧ fits i = true) ∧ fits j = true) ∧ Q (.tup [.int (i / j), .int (i % j)]) μ) := by
  show Ok (if (decide (0 < j) && fits i && fits j) = true then ok (.tup [.int (i / j), .int (i % j)]) μ else none) Q = _
  rw [Ok_guard, Ok_ok, Bool.and_eq_true, Bool.and_eq_true, decide_eq_true_iff]
theorem p_zip : Ok (dZip [.lst b xs, .lst b' ys] μ) QI = QI (.fix (zipD xs ys)) μ := rfl
def liveP (o : Option Cell) (K : List D → Prop) : Prop := match o with
  | some (.lst .live xs) => K xs
  | _ => False
theorem live_l {K : List D → Prop} : liveP (some (.lst .live xs)) K = K xs := rfl
theorem live_eq (n : Nat) : live μ (.ref n) = match μ[n]? with
    | some (.lst .live xs) => some (n, xs)
    | _ => none := rfl
theorem p_app (n : Nat) (y : D) : Ok (dMth .append (.ref n) [y] μ) Q = liveP μ[n]? fun xs => xs.length < LIM ∧ Q .non (μ.set n (.lst .live (xs ++ [y]))) := by
  show Ok (match live μ (.ref n) with
    | none => none
    | some (n, xs) => if xs.length < LIM then ok .non (μ.set n (.lst .live (xs ++ [y]))) else none) Q = _
  rw [live_eq]
  cases μ[n]? with
  | none => rfl
  | some c =>
    cases c with
    | lst m xs => cases m <;> first | rfl | (simp only [liveP]; rw [Ok_guard, Ok_ok])
    | _ => rfl
theorem p_pop (n : Nat) : Ok (dMth .pop (.ref n) [] μ) Q = liveP μ[n]? fun xs => ∃ y, xs[xs.length - 1]? = some y ∧ Q y (μ.set n (.lst .live xs.dropLast)) := by
  show Ok (match live μ (.ref n) with
    | none => none
    | some (n, xs) => match xs[xs.length - 1]? with
      | some y => ok y (μ.set n (.lst .live xs.dropLast))
      | none => none) Q = _
  rw [live_eq]
  cases μ[n]? with
  | none => rfl
  | some c =>
    cases c with
    | lst m xs =>
      cases m with
      | live =>
        simp only [liveP]
        cases xs[xs.length - 1]? with
        | none => simp [Ok_none]
        | some y => simp [Ok_ok]
      | _ => rfl
    | _ => rfl
theorem p_clear (n : Nat) : Ok (dMth .clear (.ref n) [] μ) Q = liveP μ[n]? fun xs => Q .non (μ.set n (.lst .live [])) := by
  show Ok (match live μ (.ref n) with
    | none => none
    | some (n, xs) => ok .non (μ.set n (.lst .live []))) Q = _
  rw [live_eq]
  cases μ[n]? with
  | none => rfl
  | some c =>
    cases c with
    | lst m xs =>
      cases m with
      | live =>
        simp only [liveP]
        rfl
      | _ => rfl
    | _ => rfl
theorem p_rev (n : Nat) : Ok (dMth .reverse (.ref n) [] μ) Q = liveP μ[n]? fun xs => Q .non (μ.set n (.lst .live xs.reverse)) := by
  show Ok (match live μ (.ref n) with
    | none => none
    | some (n, xs) => ok .non (μ.set n (.lst .live xs.reverse))) Q = _
  rw [live_eq]
  cases μ[n]? with
  | none => rfl
  | some c =>
    cases c with
    | lst m xs =>
      cases m with
      | live =>
        simp only [liveP]
        rfl
      | _ => rfl
    | _ => rfl
theorem p_ext (n : Nat) (b : Bool) (ys : List D) : Ok (dMth .extend (.ref n) [.lst b ys] μ) Q = liveP μ[n]? fun xs => xs.length + ys.length ≤ LIM ∧ Q .non (μ.set n (.lst .live (xs ++ ys))) := by
  show Ok (match live μ (.ref n) with
    | none => none
    | some (n, xs) => if xs.length + ys.length ≤ LIM then ok .non (μ.set n (.lst .live (xs ++ ys))) else none) Q = _
  rw [live_eq]
  cases μ[n]? with
  | none => rfl
  | some c =>
    cases c with
    | lst m xs =>
      cases m with
      | live =>
        simp only [liveP]
        rw [Ok_guard, Ok_ok]
      | _ => rfl
    | _ => rfl
theorem p_ins (n : Nat) (y : D) : Ok (dMth .insert (.ref n) [.int i, y] μ) Q = liveP μ[n]? fun xs => (xs.length < LIM ∧ 0 ≤ i ∧ i.natAbs ≤ LIM) ∧ Q .non (μ.set n (.lst .live (xs.take i.toNat ++ [y] ++ xs.drop i.toNat))) := by
  show Ok (match live μ (.ref n) with
    | none => none
    | some (n, xs) => if xs.length < LIM ∧ 0 ≤ i ∧ i.natAbs ≤ LIM then ok .non (μ.set n (.lst .live (xs.take i.toNat ++ [y] ++ xs.drop i.toNat))) else none) Q = _
  rw [live_eq]
  cases μ[n]? with
  | none => rfl
  | some c =>
    cases c with
    | lst m xs =>
      cases m with
      | live =>
        simp only [liveP]
        rw [Ok_guard, Ok_ok]
      | _ => rfl
    | _ => rfl
theorem p_popAt (n : Nat) : Ok (dMth .popAt (.ref n) [.int i] μ) Q = liveP μ[n]? fun xs => ∃ k, L2.ixN xs.length i = some k ∧ ∃ y, xs[k]? = some y ∧ i.natAbs ≤ LIM ∧ Q y (μ.set n (.lst .live (xs.eraseIdx k))) := by
  show Ok (match live μ (.ref n) with
    | none => none
    | some (n, xs) => match L2.ixN xs.length i with
      | some k => match xs[k]? with
        | some y => if i.natAbs ≤ LIM then ok y (μ.set n (.lst .live (xs.eraseIdx k))) else none
        | none => none
      | none => none) Q = _
  rw [live_eq]
  cases μ[n]? with
  | none => rfl
  | some c =>
    cases c with
    | lst m xs =>
      cases m with
      | live =>
        simp only [liveP]
        cases L2.ixN xs.length i with
        | none => simp [Ok_none]
        | some k =>
          simp only [Option.some.injEq, exists_eq_left']
          cases xs[k]? with
          | none => simp [Ok_none]
          | some y =>
            simp only [Option.some.injEq, exists_eq_left', Ok_guard, Ok_ok]
      | _ => rfl
    | _ => rfl
theorem p_index (ns : List Int) : Ok (dMth .index (.lst b (ns.map D.int)) [.int i] μ) Q = ∃ j, idxOf i ns 0 = some j ∧ Q (.int (j : Nat)) μ := by
  show Ok (match (some (ns.map D.int)).bind intsD with
    | some ns => match idxOf i ns 0 with
      | some j => ok (.int (j : Nat)) μ
      | none => none
    | none => none) Q = _
  rw [Option.bind_some, ints_map]
  simp only
  cases idxOf i ns 0 with
  | none => simp [Ok_none]
  | some j => simp [Ok_ok]
theorem p_remove (n : Nat) : Ok (dMth .remove (.ref n) [.int i] μ) Q = liveP μ[n]? fun xs => ∃ ns, intsD xs = some ns ∧ ∃ j, idxOf i ns 0 = some j ∧ Q .non (μ.set n (.lst .live ((ns.eraseIdx j).map D.int))) := by
  show Ok (match live μ (.ref n) with
    | none => none
    | some (n, xs) => match intsD xs with
      | some ns => match idxOf i ns 0 with
        | some j => ok .non (μ.set n (.lst .live ((ns.eraseIdx j).map D.int)))
        | none => none
      | none => none) Q = _
  rw [live_eq]
  cases μ[n]? with
  | none => rfl
  | some c =>
    cases c with
    | lst m xs =>
      cases m with
      | live =>
        simp only [liveP]
        cases intsD xs with
        | none => simp [Ok_none]
        | some ns =>
          simp only [Option.some.injEq, exists_eq_left']
          cases idxOf i ns 0 with
          | none => simp [Ok_none]
          | some j => simp [Ok_ok]
      | _ => rfl
    | _ => rfl
theorem p_sorted : Ok (BI.d lv .sorted [.lst b xs] μ) Q = ∃ ns, intsD xs = some ns ∧ Ok (alloc lv ((isort ns).map D.int) μ) Q := by
  show Ok (match (some xs).bind intsD with
    | some ns => alloc lv ((isort ns).map D.int) μ
    | none => none) Q = _
  rw [Option.bind_some]
  cases intsD xs with
  | none => simp [Ok_none]
  | some ns => simp
theorem ints_snoc (k : Int) : ∀ ns : List Int, intsD (ns.map D.int ++ [D.int k]) = some (ns ++ [k])
  | [] => rfl
  | x :: r => by
    show (intsD (r.map D.int ++ [D.int k])).map (x :: ·) = _
    rw [ints_snoc k r]
    rfl
theorem isl_l : (isList μ (.lst b xs) = true) = True := by simp [isList, seeL, see]
theorem isl (n : Nat) : (isList μ (.ref n) = true) = cellP μ[n]? fun _ => True := by
  unfold isList
  rw [seeL_ref]
  unfold cellP
  cases μ[n]? with
  | none => simp
  | some c => cases c <;> simp
theorem p_set (n : Nat) : Ok (dSet (.ref n) (.int i) d μ) QU = liveP μ[n]? fun xs => ∃ j, L2.ixN xs.length i = some j ∧ QU () (μ.set n (.lst .live (xs.set j d))) := by
  show Ok (match live μ (.ref n), D.int i with
    | some (n, xs), .int k => match L2.ixN xs.length k with
      | some j => ok () (μ.set n (.lst .live (xs.set j d)))
      | none => none
    | _, _ => none) QU = _
  rw [live_eq]
  cases μ[n]? with
  | none => rfl
  | some c =>
    cases c with
    | lst m xs =>
      cases m with
      | live =>
        simp only [liveP]
        cases L2.ixN xs.length i with
        | none => simp [Ok_none]
        | some j => simp [Ok_ok]
      | _ => rfl
    | _ => rfl
def isiP (T : Ty) (t : Option (Option Ty)) (K : Bool → Prop) : Prop := match t with
  | some t => K (isTy t T)
  | none => False
theorem p_isi (T : Ty) : Ok (dIsi T d μ) Q = isiP T (tyOf μ d) fun b => Q (.bl b) μ := by
  unfold dIsi isiP
  cases tyOf μ d <;> rfl
theorem isi_s (T : Ty) (t : Option Ty) : isiP T (some t) K = K (isTy t T) := rfl
theorem ty_int : tyOf μ (.int i) = some (some .int) := rfl
theorem ty_bl (z : Bool) : tyOf μ (.bl z) = some (some .bool) := rfl
theorem ty_non : tyOf μ .non = some none := rfl
theorem ty_lst : tyOf μ (.lst b xs) = some (some .list) := rfl
theorem ty_tup : tyOf μ (.tup xs) = some (some .tuple) := rfl
theorem ty_str (z : Str) : tyOf μ (.str z) = some (some .str) := rfl
theorem ty_ref (n : Nat) : tyOf μ (.ref n) = tyC μ[n]? := rfl
theorem ty_cl (m : Mode) : tyC (some (.lst m xs)) = some (some .list) := rfl
theorem ty_oi (o : Option Int) : tyOf μ (oi o) = some (if o.isSome then some .int else none) := by cases o <;> rfl
theorem p_frz : Ok (dFrz d μ) Q = match frz 6 d μ with
    | some (e, μ') => Q e μ'
    | none => False := by
  unfold dFrz
  cases frz 6 d μ <;> rfl
theorem a_add : Ok (Aop.d .add (.int i) (.int j) μ) Q = Q (.int (i + j)) μ := rfl
theorem a_sub : Ok (Aop.d .sub (.int i) (.int j) μ) Q = Q (.int (i - j)) μ := rfl
theorem a_mul : Ok (Aop.d .mul (.int i) (.int j) μ) Q = (mulOk i j = true ∧ Q (.int (i * j)) μ) := by
  show Ok (if mulOk i j = true then ok (.int (i * j)) μ else none) Q = _
  rw [Ok_guard, Ok_ok]
theorem ixL : dIxL (.lst b xs) e μ = dIx (.lst b xs) e μ := rfl
theorem ixLR (n : Nat) : dIxL (.ref n) e μ = dIx (.ref n) e μ := rfl
def varP (env : Env) (i : Nat) (K : D → Prop) : Prop := match env[i]? with
  | some (some d) => K d
  | _ => False
theorem p_var {env : Env} (i : Nat) : Ok (fVar i env μ) Q = varP env i fun d => Q d μ := by
  unfold fVar varP
  cases env[i]? with
  | none => rfl
  | some o => cases o <;> rfl
theorem v_0 {r : Env} {K : D → Prop} : varP (some d :: r) 0 K = K d := rfl
theorem v_s {o : Option D} {r : Env} {K : D → Prop} (i : Nat) : varP (o :: r) (i + 1) K = varP r i K := rfl
end
theorem rep_one {α : Type} (x : α) : ∀ n : Nat, (List.replicate n [x]).flatten = List.replicate n x
  | 0 => rfl
  | n + 1 => by
    rw [List.replicate_succ, List.flatten_cons, rep_one x n]
    rfl
theorem end_get {μ : Sto} {c : Cell} : (μ ++ [c])[List.length μ]? = some c := by simp
theorem end_set {μ : Sto} {c c' : Cell} : (μ ++ [c]).set (List.length μ) c' = μ ++ [c'] := by simp
/-! loops, comprehensions -/
section
variable {Γ : List (Nat × Fn)} {α : Type}
theorem gc_id {n : Nat} {env : Env} {μ : Sto} (h : μ.length ≤ n) : gc n env μ = μ := by
  unfold gc
  split
  · exact List.take_of_length_le h
  · rfl
theorem o_for {f : α → D} {xs : List α} {tg : Tg} {src : Src} {body : List S} {P : Fl → Sto → Prop} {env : Env} {μ : Sto} (n0 : Nat) (I : Nat → Env → Sto → Prop)
    (hs : Ok (src.ev Γ env μ) fun s μ1 => s = .fix (xs.map f) ∧ μ1.length = n0 ∧ I 0 env μ1)
    (step : ∀ i (h : i < xs.length) e m, I i e m → ∃ e1, tg.bind (f xs[i]) e = some e1 ∧ Ok (S.evs Γ body e1 m) fun fl m1 => match fl with
      | .nx e2 => I (i + 1) e2 (gc n0 e2 m1)
      | .rt d => P (.rt d) m1)
    (done : ∀ e m, I xs.length e m → P (.nx e) m) : Ok (S.ev Γ (.for_ tg src body) env μ) P := by
  show Ok (rb (src.ev Γ env μ) fun s μ1 => forN tg (S.evs Γ body) s μ1.length (s.fuel μ1) 0 env μ1) P
  rw [Ok_rb]
  refine hs.imp ?_
  rintro s μ1 ⟨rfl, hn, h0⟩
  have go : ∀ k i e m, i + k = xs.length → I i e m → Ok (forN tg (S.evs Γ body) (.fix (xs.map f)) n0 (k + 1) i e m) P := by
    intro k
    induction k with
    | zero =>
      intro i e m hk hi
      have hi' : i = xs.length := by omega
      unfold forN
      have e1 : Sr.at m i (.fix (xs.map f)) = some none := by
        show some (xs.map f)[i]? = _
        rw [List.getElem?_eq_none (by rw [List.length_map]; omega)]
      rw [e1]
      rw [hi'] at hi
      exact done e m hi
    | succ k ih =>
      intro i e m hk hi
      have hl : i < xs.length := by omega
      obtain ⟨e1, h1, h2⟩ := step i hl e m hi
      have ea : Sr.at m i (.fix (xs.map f)) = some (some (f xs[i])) := by
        show some (xs.map f)[i]? = _
        rw [List.getElem?_eq_getElem (by rw [List.length_map]; exact hl), List.getElem_map]
      unfold forN
      rw [ea]
      simp only [h1]
      rw [Ok_rb]
      refine h2.imp fun fl m1 q => ?_
      cases fl with
      | nx e2 => exact ih (i + 1) e2 _ (by omega) q
      | rt d => exact q
  have e0 : Sr.fuel μ1 (.fix (xs.map f)) = xs.length + 1 := by
    show (xs.map f).length + 1 = _
    rw [List.length_map]
  rw [e0, hn]
  exact go xs.length 0 env μ1 (by omega) h0
theorem Ok_eq {β : Type} {r : R β} {a : β} {μ' : Sto} (h : Ok r fun x m => x = a ∧ m = μ') : r = ok a μ' := by
  match r, h with
  | some (.ok (_, _)), ⟨rfl, rfl⟩ => rfl
theorem o_comp {f : α → D} {xs : List α} {tg : Tg} {src : Src} {cond : List X} {elt : X} {own : List Nat} {lv : Bool} {Q : D → Sto → Prop} {env : Env} {μ : Sto} (p : α → Bool) (g : α → D)
    (hs : Ok (src.ev Γ env μ) fun s μ1 => s = .fix (xs.map f) ∧ μ1 = μ ∧ xs.length < LIM)
    (step : ∀ i (h : i < xs.length), ∃ e1, tg.bind (f xs[i]) (wipeE env own) = some e1 ∧ (match cond with
      | [] => p xs[i] = true
      | c :: _ => Ok (c.ev Γ e1 μ) fun t m => t = D.bl (p xs[i]) ∧ m = μ) ∧ (p xs[i] = true → Ok (elt.ev Γ e1 μ) fun y m => y = g xs[i] ∧ m = μ))
    (done : Ok (alloc lv ((xs.filter p).map g) μ) Q) : Ok (X.ev Γ (.comp lv src tg cond elt own) env μ) Q := by
  show Ok (rb (src.ev Γ env μ) fun s μ1 => if s.fuel μ1 ≤ LIM then rb (compN tg (X.evo Γ cond) (elt.ev Γ) s (wipeE env own) (s.fuel μ1) 0 μ1) fun ys μ2 => alloc lv ys (s.free μ2) else none) Q
  rw [Ok_rb]
  refine hs.imp ?_
  rintro s μ1 ⟨rfl, rfl, hl⟩
  have e0 : Sr.fuel μ1 (.fix (xs.map f)) = xs.length + 1 := by
    show (xs.map f).length + 1 = _
    rw [List.length_map]
  rw [e0, if_pos (by omega)]
  have go : ∀ k i, i + k = xs.length → compN tg (X.evo Γ cond) (elt.ev Γ) (.fix (xs.map f)) (wipeE env own) (k + 1) i μ1 = ok (((xs.drop i).filter p).map g) μ1 := by
    intro k
    induction k with
    | zero =>
      intro i hk
      unfold compN
      have e1 : Sr.at μ1 i (.fix (xs.map f)) = some none := by
        show some (xs.map f)[i]? = _
        rw [List.getElem?_eq_none (by rw [List.length_map]; omega)]
      rw [e1, List.drop_of_length_le (by omega)]
      rfl
    | succ k ih =>
      intro i hk
      have hi : i < xs.length := by omega
      obtain ⟨e1, h1, h2, h3⟩ := step i hi
      have ea : Sr.at μ1 i (.fix (xs.map f)) = some (some (f xs[i])) := by
        show some (xs.map f)[i]? = _
        rw [List.getElem?_eq_getElem (by rw [List.length_map]; exact hi), List.getElem_map]
      have ec : condT (X.evo Γ cond) e1 μ1 = ok (D.bl (p xs[i])) μ1 := by
        cases cond with
        | nil =>
          show ok (D.bl true) μ1 = _
          rw [show p xs[i] = true from h2]
        | cons c r =>
          show noErr (c.ev Γ e1 μ1) = _
          rw [Ok_eq h2, noErr_ok]
      unfold compN
      rw [ea]
      simp only [h1, ec, rb_ok]
      rw [List.drop_eq_getElem_cons hi]
      cases hp : p xs[i] with
      | true =>
        simp only
        rw [Ok_eq (h3 hp), noErr_ok, rb_ok, ih (i + 1) (by omega), rb_ok, List.filter_cons, if_pos hp]
        rfl
      | false =>
        simp only
        rw [ih (i + 1) (by omega), List.filter_cons, if_neg (by rw [hp]; decide)]
  rw [go xs.length 0 (by omega), rb_ok]
  exact done
def srcP (n : Nat) (μ : Sto) (o : Option Cell) (K : Sr → Sto → Prop) : Prop := match o with
  | some (.lst .live xs) => K (.cell n true) (μ.set n (.lst .lock xs))
  | some (.lst .lock _) => K (.cell n false) μ
  | some (.lst .fz xs) => K (.fix xs) μ
  | _ => False
theorem src_l {n : Nat} {μ : Sto} {xs : List D} {K : Sr → Sto → Prop} : srcP n μ (some (.lst .live xs)) K = K (.cell n true) (μ.set n (.lst .lock xs)) := rfl
theorem src_f {n : Nat} {μ : Sto} {xs : List D} {K : Sr → Sto → Prop} : srcP n μ (some (.lst .fz xs)) K = K (.fix xs) μ := rfl
theorem p_srcR (n : Nat) {μ : Sto} {QI : Sr → Sto → Prop} : Ok (dSrc (.ref n) μ) QI = srcP n μ μ[n]? QI := by
  show Ok (match μ[n]? with
    | some (.lst .live xs) => ok (.cell n true) (μ.set n (.lst .lock xs))
    | some (.lst .lock _) => ok (.cell n false) μ
    | some (.lst .fz xs) => ok (.fix xs) μ
    | _ => none) QI = _
  unfold srcP
  cases μ[n]? with
  | none => rfl
  | some c =>
    cases c with
    | lst m xs => cases m <;> rfl
    | _ => rfl
theorem o_map {f : α → D} {xs : List α} {tg : Tg} {src : Src} {elt : X} {own : List Nat} {lv : Bool} {Q : D → Sto → Prop} {env : Env} {μ : Sto} (g : α → D)
    (hs : Ok (src.ev Γ env μ) fun s μ1 => s = .fix (xs.map f) ∧ μ1 = μ ∧ xs.length < LIM)
    (step : ∀ i (h : i < xs.length), ∃ e1, tg.bind (f xs[i]) (wipeE env own) = some e1 ∧ Ok (elt.ev Γ e1 μ) fun y m => y = g xs[i] ∧ m = μ)
    (done : Ok (alloc lv (xs.map g) μ) Q) : Ok (X.ev Γ (.comp lv src tg [] elt own) env μ) Q := by
  refine o_comp (fun _ => true) g hs (fun i h => ?_) (by rw [List.filter_eq_self.mpr fun _ _ => rfl]; exact done)
  obtain ⟨e1, h1, h2⟩ := step i h
  exact ⟨e1, h1, rfl, fun _ => h2⟩
theorem ex_neg {b : Bool} {P : Bool → Prop} : (∃ t, b = !t ∧ P t) = P (!b) := by
  cases b <;> simp
theorem ex_neg' {b : Bool} {P : Bool → Prop} : (∃ t, (!t) = b ∧ P t) = P (!b) := by
  cases b <;> simp
/-- a statement, a word behind it, the rest -/
theorem o_cut {s : S} {r : List S} {P : Fl → Sto → Prop} {env : Env} {μ : Sto} (J : Env → Sto → Prop) (h : Ok (S.ev Γ s env μ) fun fl m => ∃ e, fl = .nx e ∧ J e m) (k : ∀ e m, J e m → Ok (S.evs Γ r e m) P) : Ok (S.evs Γ (s :: r) env μ) P := by
  rw [o_cons]
  refine h.imp ?_
  rintro fl m ⟨e, rfl, hj⟩
  exact k e m hj
/-- a def's run -/
theorem run_ok {N : List Str} {body : List S} {ds : List D} {d : D} {μ : Sto} (h : Ok (S.evs Γ body (ds.map some ++ List.replicate (N.length - ds.length) none) []) fun fl m => fl = .rt d ∧ (d.clean = true ∧ μ = [] ∨ d.clean = false ∧ m = μ)) : runDef Γ N body ds = some (.ok (d, μ)) := by
  unfold runDef
  obtain ⟨fl, m, e, rfl, q⟩ := h.elim
  rw [e]
  show some (Except.ok (d, if d.clean = true then [] else m)) = _
  rcases q with ⟨q, rfl⟩ | ⟨q, rfl⟩
  · rw [if_pos q]
  · rw [if_neg (by rw [q]; decide)]
theorem run_nx {N : List Str} {body : List S} {ds : List D} (h : Ok (S.evs Γ body (ds.map some ++ List.replicate (N.length - ds.length) none) []) fun fl _ => ∃ e, fl = .nx e) : runDef Γ N body ds = some (.ok (.non, [])) := by
  unfold runDef
  obtain ⟨fl, m, e, _, rfl⟩ := h.elim
  rw [e]
  rfl
theorem run_ex {N : List Str} {body : List S} {ds : List D} {T : D → Prop} (h : Ok (S.evs Γ body (ds.map some ++ List.replicate (N.length - ds.length) none) []) fun fl m => ∃ d, fl = .rt d ∧ d.clean = true ∧ T d) : ∃ d, runDef Γ N body ds = some (.ok (d, [])) ∧ T d := by
  obtain ⟨fl, m, e, d, rfl, hc, ht⟩ := h.elim
  refine ⟨d, run_ok ?_, ht⟩
  rw [e]
  exact ⟨rfl, .inl ⟨hc, rfl⟩⟩
end
/-! calls -/
def giveP (o : Option (D × Sto)) (K : D → Prop) : Prop := match o with
  | some (e, _) => e.clean = true ∧ K e
  | none => False
theorem g_s {e : D} {m : Sto} {K : D → Prop} : giveP (some (e, m)) K = (e.clean = true ∧ K e) := rfl
theorem p_gT {d : D} {μ' μ : Sto} {Q : D → Sto → Prop} : Ok (give true d μ' μ) Q = giveP (frz 6 d μ') fun e => Q e μ := by
  unfold give giveP
  simp only
  cases frz 6 d μ' with
  | none => rfl
  | some p =>
    obtain ⟨e, m⟩ := p
    simp only
    rw [Ok_guard, Ok_ok]
theorem p_gF {d : D} {μ' μ : Sto} {Q : D → Sto → Prop} : Ok (give false d μ' μ) Q = ((d.ret = true ∧ μ'.all Cell.ret = true) ∧ Q (d.sh μ.length) (μ ++ μ'.map (Cell.sh μ.length))) := by
  unfold give
  simp only
  rw [Ok_guard, Ok_ok, Bool.and_eq_true]
theorem call_eq {Γ : List (Nat × Fn)} {f dn : Nat} {fz : Bool} {ds es : List D} {μ μ' : Sto} {Q : D → Sto → Prop} {F : Fn} {d : D} (hF : Γ.lookup f = some F) (hl : lendA μ F.bo (ds ++ List.replicate dn .non) = some es) (hp : es.length = F.ps.length) (hr : F.run es = some (.ok (d, μ'))) : Ok (fnth Γ f dn fz ds μ) Q = Ok (give fz d μ' μ) Q := by
  unfold fnth
  rw [hF]
  show Ok (dCall F dn fz ds μ) Q = _
  unfold dCall
  rw [hl]
  simp only
  rw [if_pos hp, hr]
theorem la_nil {μ : Sto} : lendA μ [] [] = some [] := rfl
theorem la_t {μ : Sto} {m : List Bool} {d : D} {r : List D} : lendA μ (true :: m) (d :: r) = (lend μ 8 d).bind fun x => (lendA μ m r).map (x :: ·) := by
  show (match lend μ 8 d, lendA μ m r with
    | some x, some s => some (x :: s)
    | _, _ => none) = _
  cases lend μ 8 d with
  | none => rfl
  | some x => cases lendA μ m r <;> rfl
theorem la_f {μ : Sto} {m : List Bool} {d : D} {r : List D} (h : d.clean = true) : lendA μ (false :: m) (d :: r) = (lendA μ m r).map (d :: ·) := by
  show (if d.clean = true then (lendA μ m r).map (d :: ·) else none) = _
  rw [if_pos h]
theorem rt_ints : ∀ xs : List Int, D.rets (xs.map D.int) = true
  | [] => rfl
  | x :: r => rt_ints r
theorem rt_oi : ∀ o : Option Int, (oi o).ret = true
  | none => rfl
  | some i => rfl
theorem rt_ois : ∀ xs : List (Option Int), D.rets (xs.map oi) = true
  | [] => rfl
  | x :: r => by
    show ((oi x).ret && D.rets (r.map oi)) = true
    rw [rt_oi, rt_ois r]
    rfl
theorem rt_row (r : List Int) : (row false r).ret = true := rt_ints r
theorem rt_rows : ∀ t : List (List Int), D.rets (t.map (row false)) = true
  | [] => rfl
  | x :: r => by
    show ((row false x).ret && D.rets (r.map (row false))) = true
    rw [rt_row, rt_rows r]
    rfl
theorem rt_map {α : Type} {f : α → D} (h : ∀ x, (f x).ret = true) : ∀ xs : List α, D.rets (xs.map f) = true
  | [] => rfl
  | x :: r => by
    show ((f x).ret && D.rets (r.map f)) = true
    rw [h, rt_map h r]
    rfl
theorem rt_drow (r : List (Option Int)) : (drow false r).ret = true := rt_ois r
theorem rt_drows (t : List (List (Option Int))) : D.rets (t.map (drow false)) = true := rt_map rt_drow t
theorem rt_ref (k : Nat) : (D.ref k).ret = true := rfl
theorem rt_int (k : Int) : (D.int k).ret = true := rfl
theorem rt_bl (k : Bool) : (D.bl k).ret = true := rfl
theorem rt_non : D.non.ret = true := rfl
theorem rt_str (x : Str) : (D.str x).ret = true := rfl
theorem rt_tup (xs : List D) : (D.tup xs).ret = D.rets xs := rfl
theorem sh_non (n : Nat) : D.non.sh n = .non := rfl
theorem sh_str (n : Nat) (x : Str) : (D.str x).sh n = .str x := rfl
theorem sh_tup (n : Nat) (xs : List D) : (D.tup xs).sh n = .tup (D.shs n xs) := rfl
theorem rt_cell (xs : List D) : Cell.ret (.lst .live xs) = D.rets xs := rfl
theorem rt_cons (x : D) (r : List D) : D.rets (x :: r) = (x.ret && D.rets r) := rfl
theorem rt_nil : D.rets [] = true := rfl
theorem rt_lst (xs : List D) : (D.lst false xs).ret = D.rets xs := rfl
theorem rt_app : ∀ xs ys : List D, D.rets (xs ++ ys) = (D.rets xs && D.rets ys)
  | [], ys => rfl
  | x :: r, ys => by
    show (x.ret && D.rets (r ++ ys)) = (x.ret && D.rets r && D.rets ys)
    rw [rt_app r ys, Bool.and_assoc]
theorem sh_ints (n : Nat) : ∀ xs : List Int, D.shs n (xs.map D.int) = xs.map D.int
  | [] => rfl
  | x :: r => by
    show D.int x :: D.shs n (r.map D.int) = _
    rw [sh_ints n r]
    rfl
theorem sh_oi (n : Nat) (o : Option Int) : (oi o).sh n = oi o := by cases o <;> rfl
theorem sh_ois (n : Nat) : ∀ xs : List (Option Int), D.shs n (xs.map oi) = xs.map oi
  | [] => rfl
  | x :: r => by
    show (oi x).sh n :: D.shs n (r.map oi) = _
    rw [sh_oi, sh_ois n r]
    rfl
theorem sh_row (n : Nat) (b : Bool) (r : List Int) : (row b r).sh n = row b r := by
  show D.lst b (D.shs n (r.map D.int)) = _
  rw [sh_ints]
  rfl
theorem sh_rows (n : Nat) (b : Bool) : ∀ t : List (List Int), D.shs n (t.map (row b)) = t.map (row b)
  | [] => rfl
  | x :: r => by
    show (row b x).sh n :: D.shs n (r.map (row b)) = _
    rw [sh_row, sh_rows n b r]
    rfl
theorem sh_map {α : Type} {n : Nat} {f g : α → D} (h : ∀ x, (f x).sh n = g x) : ∀ xs : List α, D.shs n (xs.map f) = xs.map g
  | [] => rfl
  | x :: r => by
    show (f x).sh n :: D.shs n (r.map f) = _
    rw [h, sh_map h r]
    rfl
theorem sh_drow (n : Nat) (b : Bool) (r : List (Option Int)) : (drow b r).sh n = drow b r := by
  show D.lst b (D.shs n (r.map oi)) = _
  rw [sh_ois]
  rfl
theorem sh_drows (n : Nat) (b : Bool) (t : List (List (Option Int))) : D.shs n (t.map (drow b)) = t.map (drow b) := sh_map (sh_drow n b) t
theorem sh_ref (n k : Nat) : (D.ref k).sh n = .ref (n + k) := rfl
theorem sh_int (n : Nat) (k : Int) : (D.int k).sh n = .int k := rfl
theorem sh_bl (n : Nat) (k : Bool) : (D.bl k).sh n = .bl k := rfl
theorem sh_cell (n : Nat) (m : Mode) (xs : List D) : Cell.sh n (.lst m xs) = .lst m (D.shs n xs) := rfl
theorem sh_cons (n : Nat) (x : D) (r : List D) : D.shs n (x :: r) = x.sh n :: D.shs n r := rfl
theorem sh_nil (n : Nat) : D.shs n [] = [] := rfl
theorem sh_lst (n : Nat) (b : Bool) (xs : List D) : (D.lst b xs).sh n = .lst b (D.shs n xs) := rfl
/-! nothing new is spoken of -/
theorem be_ints (n : Nat) : ∀ xs : List Int, D.bels n (xs.map D.int) = true
  | [] => rfl
  | x :: r => be_ints n r
theorem be_oi (n : Nat) : ∀ o : Option Int, (oi o).bel n = true
  | none => rfl
  | some i => rfl
theorem be_ois (n : Nat) : ∀ xs : List (Option Int), D.bels n (xs.map oi) = true
  | [] => rfl
  | x :: r => by
    show ((oi x).bel n && D.bels n (r.map oi)) = true
    rw [be_oi, be_ois n r]
    rfl
theorem be_row (n : Nat) (b : Bool) (r : List Int) : (row b r).bel n = true := be_ints n r
theorem be_rows (n : Nat) (b : Bool) : ∀ t : List (List Int), D.bels n (t.map (row b)) = true
  | [] => rfl
  | x :: r => by
    show ((row b x).bel n && D.bels n (r.map (row b))) = true
    rw [be_row, be_rows n b r]
    rfl
theorem be_map {α : Type} {n : Nat} {f : α → D} (h : ∀ x, (f x).bel n = true) : ∀ xs : List α, D.bels n (xs.map f) = true
  | [] => rfl
  | x :: r => by
    show ((f x).bel n && D.bels n (r.map f)) = true
    rw [h, be_map h r]
    rfl
theorem be_drow (n : Nat) (b : Bool) (r : List (Option Int)) : (drow b r).bel n = true := be_ois n r
theorem be_drows (n : Nat) (b : Bool) (t : List (List (Option Int))) : D.bels n (t.map (drow b)) = true := be_map (be_drow n b) t
theorem be_app (n : Nat) : ∀ xs ys : List D, D.bels n (xs ++ ys) = (D.bels n xs && D.bels n ys)
  | [], ys => rfl
  | x :: r, ys => by
    show (x.bel n && D.bels n (r ++ ys)) = (x.bel n && D.bels n r && D.bels n ys)
    rw [be_app n r ys, Bool.and_assoc]
theorem be_int (n : Nat) (i : Int) : (D.int i).bel n = true := rfl
theorem be_bl (n : Nat) (i : Bool) : (D.bl i).bel n = true := rfl
theorem be_non (n : Nat) : D.non.bel n = true := rfl
theorem be_str (n : Nat) (x : Str) : (D.str x).bel n = true := rfl
theorem be_scr (n : Nat) (x : List Int) : (D.scr x).bel n = true := rfl
theorem be_lst (n : Nat) (b : Bool) (xs : List D) : (D.lst b xs).bel n = D.bels n xs := rfl
theorem be_tup (n : Nat) (xs : List D) : (D.tup xs).bel n = D.bels n xs := rfl
theorem be_ref (n k : Nat) : (D.ref k).bel n = decide (k < n) := rfl
theorem be_cons (n : Nat) (x : D) (r : List D) : D.bels n (x :: r) = (x.bel n && D.bels n r) := rfl
theorem be_nil (n : Nat) : D.bels n [] = true := rfl
theorem be_cell (n : Nat) (m : Mode) (xs : List D) : Cell.bel n (.lst m xs) = D.bels n xs := rfl
theorem be_e0 (n : Nat) : envBelow n [] = true := rfl
theorem be_eN (n : Nat) (r : Env) : envBelow n (none :: r) = envBelow n r := rfl
theorem be_eS (n : Nat) (d : D) (r : Env) : envBelow n (some d :: r) = (d.bel n && envBelow n r) := rfl
theorem gc_take {n : Nat} {env : Env} {μ : Sto} (h : envBelow n env = true) (h' : (μ.take n).all (Cell.bel n) = true) : gc n env μ = μ.take n := by
  unfold gc
  rw [if_pos (by rw [h, h']; rfl)]
theorem tn (n : Nat) : Int.toNat (no_index (OfNat.ofNat n)) = n := rfl
theorem tn0 : Int.toNat 0 = 0 := rfl
theorem tn1 : Int.toNat 1 = 1 := rfl
theorem nc (n : Nat) : ((no_index (OfNat.ofNat n) : Nat) : Int) = OfNat.ofNat n := rfl
theorem nc0 : ((0 : Nat) : Int) = 0 := rfl
theorem nc1 : ((1 : Nat) : Int) = 1 := rfl
/-! small enough -/
class Sm (i : Int) (n : outParam Nat) : Prop where
  h : i.natAbs < 2 ^ n
section
variable {i j : Int} {a b : Nat}
theorem two_le {a b : Nat} (h : a ≤ b) : 2 ^ a ≤ 2 ^ b := Nat.pow_le_pow_right (by decide) h
instance [Sm i a] [Sm j b] : Sm (i + j) (a + b + 1) := ⟨by
  have h1 := (inferInstance : Sm i a).h
  have h2 := (inferInstance : Sm j b).h
  have h3 := two_le (Nat.le_add_right a b)
  have h4 := two_le (Nat.le_add_left b a)
  rw [Nat.pow_succ]
  omega⟩
instance [Sm i a] [Sm j b] : Sm (i - j) (a + b + 1) := ⟨by
  have h1 := (inferInstance : Sm i a).h
  have h2 := (inferInstance : Sm j b).h
  have h3 := two_le (Nat.le_add_right a b)
  have h4 := two_le (Nat.le_add_left b a)
  rw [Nat.pow_succ]
  omega⟩
instance [Sm i a] : Sm (-i) a := ⟨by
  have h1 := (inferInstance : Sm i a).h
  omega⟩
instance [Sm i a] [Sm j b] : Sm (i * j) (a + b) := ⟨by
  have h1 := (inferInstance : Sm i a).h
  have h2 := (inferInstance : Sm j b).h
  rw [Int.natAbs_mul, Nat.pow_add]
  exact Nat.mul_lt_mul'' h1 h2⟩
instance [Sm i a] : Sm (i / j) a := ⟨by
  have h1 := (inferInstance : Sm i a).h
  exact Nat.lt_of_le_of_lt (Int.natAbs_ediv_le_natAbs i j) h1⟩
instance (priority := low) {n : Nat} : Sm (no_index (OfNat.ofNat n : Int)) (n.log2 + 1) := ⟨by
  show (n : Int).natAbs < _
  rw [Int.natAbs_natCast]
  exact Nat.lt_log2_self⟩
instance (priority := high) {n : Nat} {i : Int} : Sm (i % (no_index (OfNat.ofNat (n + 1) : Int))) ((n + 1).log2 + 1) := ⟨by
  have h : (OfNat.ofNat (n + 1) : Int) = ((n + 1 : Nat) : Int) := rfl
  rw [h]
  have h1 := Int.emod_nonneg i (show ((n + 1 : Nat) : Int) ≠ 0 by omega)
  have h2 := Int.emod_lt_of_pos i (show (0 : Int) < ((n + 1 : Nat) : Int) by omega)
  have h3 : n + 1 < 2 ^ ((n + 1).log2 + 1) := Nat.lt_log2_self
  omega⟩
theorem fit [Sm i a] (h : a ≤ 4000) : fits i = true := by
  have h1 := (inferInstance : Sm i a).h
  exact decide_eq_true (Nat.lt_of_lt_of_le h1 (by unfold BIG; exact two_le h))
theorem fitL (n : Nat) (h : n < 1606938044258990275541962092341162602522202993782792835301376) : fits (no_index (OfNat.ofNat n)) = true := by
  refine decide_eq_true ?_
  show (n : Int).natAbs < BIG
  rw [Int.natAbs_natCast]
  exact Nat.lt_trans h (by unfold BIG; decide)
theorem mul_l (h : -18446744073709551616 < i ∧ i < 18446744073709551616) : mulOk i j = true := by
  have : small i = true := decide_eq_true (by omega)
  unfold mulOk
  rw [this, Bool.or_true, Bool.true_or]
theorem mul_r (h : -18446744073709551616 < j ∧ j < 18446744073709551616) : mulOk i j = true := by
  have : small j = true := decide_eq_true (by omega)
  unfold mulOk
  rw [this, Bool.or_true]
theorem mfit [Sm i a] [Sm j b] (h : a ≤ 4000) (h' : b ≤ 4000) : mulOk i j = true := by
  unfold mulOk
  rw [fit (i := i) h, fit (i := j) h']
  rfl
theorem mL (n : Nat) (h : n < 18446744073709551616) : mulOk (no_index (OfNat.ofNat n)) j = true := by
  refine mul_l ?_
  show -18446744073709551616 < (n : Int) ∧ (n : Int) < 18446744073709551616
  omega
theorem mR (n : Nat) (h : n < 18446744073709551616) : mulOk i (no_index (OfNat.ofNat n)) = true := by
  refine mul_r ?_
  show -18446744073709551616 < (n : Int) ∧ (n : Int) < 18446744073709551616
  omega
theorem sm_of {n : Nat} (h : -(2 ^ n : Nat) < i) (h' : i < (2 ^ n : Nat)) : Sm i n := ⟨by omega⟩
end
end Lv
set_option Elab.async false
set_option linter.all false
set_option maxRecDepth 100000
set_option autoImplicit false
/-! the end -/
namespace Lv
open PySem PySem.Spec PyProof.Rows L2
end Lv
set_option Elab.async false
set_option linter.all false
set_option maxRecDepth 100000
set_option autoImplicit false
/-! tuples of two whole numbers -/
namespace Lv
open PySem PySem.Spec PyProof.Rows
section
variable {μ : Sto} {n : Nat}
theorem cl_pairs (xs : List (Int × Int)) : D.cleans (xs.map pairD) = true := cl_map (fun p => rfl) xs
theorem fr_pair (p : Int × Int) : frz (n + 1) (pairD p) μ = some (pairD p, μ) := by
  cases n <;> rfl
theorem fr_pairs (xs : List (Int × Int)) : frs (frz (n + 1)) (xs.map pairD) μ = some (xs.map pairD, μ) := fr_map _ xs fun p => fr_pair p
theorem rt_pairs (xs : List (Int × Int)) : D.rets (xs.map pairD) = true := rt_map (fun p => rfl) xs
theorem sh_pairs (xs : List (Int × Int)) : D.shs n (xs.map pairD) = xs.map pairD := sh_map (fun p => rfl) xs
theorem be_pairs (xs : List (Int × Int)) : D.bels n (xs.map pairD) = true := be_map (fun p => rfl) xs
def pairP (p : Int × Int) : PyData := .tuple [.int p.1, .int p.2]
theorem py_pair (p : Int × Int) : py μ (n + 1) (pairD p) = some (pairP p) := by
  unfold pairD pairP
  rw [py_tup]
  simp only [omap_cons, omap_nil, py_int, Option.map_some]
  rfl
theorem py_pairs (xs : List (Int × Int)) : omap (py μ (n + 1)) (xs.map pairD) = some (xs.map pairP) := omap_map (fun p => py_pair p) xs
theorem ev_pair (p q : Int × Int) : PyData.eqv (pairP p) (pairP q) = decide (p = q) := by
  unfold pairP
  rw [ev_tup, ev_cons, ev_cons, ev_nil, ev_int, ev_int]
  obtain ⟨a, b⟩ := p
  obtain ⟨c, d⟩ := q
  exact Bool.eq_iff_iff.mpr (by simp)
theorem ev_pairs (xs ys : List (Int × Int)) : PyData.eqv (.list (xs.map pairP)) (.list (ys.map pairP)) = decide (xs = ys) := ev_lists ev_pair xs ys
theorem ev_pairs0 (xs : List (Int × Int)) : PyData.eqv (.list (xs.map pairP)) (.list []) = decide (xs = []) := ev_pairs xs []
theorem anyPr (zs : List (Int × Int)) (p : Int × Int) : ((zs.map pairP).any fun z => PyData.eqv z (pairP p)) = decide (p ∈ zs) := by
  rw [List.any_map, show ((fun z => PyData.eqv z (pairP p)) ∘ pairP) = fun z => decide (z = p) from funext fun z => ev_pair z p]
  exact Bool.eq_iff_iff.mpr (by simp)
theorem le_pair (p : Int × Int) : lend μ (n + 1) (pairD p) = some (pairD p) := by
  cases n <;> rfl
theorem le_pairs (xs : List (Int × Int)) : omap (lend μ (n + 1)) (xs.map pairD) = some (xs.map pairD) := (omap_map (fun p => le_pair p) xs).trans rfl
end
end Lv
namespace Lv
open PySem PySem.Spec PyProof.Rows
end Lv
namespace Lv
open PySem PySem.Spec PyProof.Rows
theorem ev_00 : PyData.eqv (.list []) (.list []) = true := by rw [ev_list, ev_nil]
end Lv
/-! defs with one default, None -/
namespace Lv
open PySem PySem.Spec PyProof.Rows L2
end Lv
/-! runs that raise -/
namespace Lv
open PySem PySem.Spec PyProof.Rows
def ErX {α : Type} (r : R α) (x : Exn) : Prop := ∃ m, r = some (.error (x, m))
section
variable {Γ : List (Nat × Fn)} {env : Env} {μ : Sto} {x : Exn}
theorem ErX.rb {α β : Type} {r : R α} {k : α → Sto → R β} (h : Ok r fun a m => ErX (k a m) x) : ErX (Lv.rb r k) x := by
  match r, h with
  | some (.ok (a, m)), h => exact h
theorem ErX.rb0 {α β : Type} {r : R α} {k : α → Sto → R β} (h : ErX r x) : ErX (Lv.rb r k) x := by
  obtain ⟨m, rfl⟩ := h
  exact ⟨m, rfl⟩
theorem e_cons {s : S} {r : List S} (h : Ok (S.ev Γ s env μ) fun fl m => ∃ e, fl = .nx e ∧ ErX (S.evs Γ r e m) x) : ErX (S.evs Γ (s :: r) env μ) x := by
  show ErX (Lv.rb (S.ev Γ s env μ) _) x
  refine ErX.rb (h.imp ?_)
  rintro fl m ⟨e, rfl, z⟩
  exact z
theorem e_here {s : S} {r : List S} (h : ErX (S.ev Γ s env μ) x) : ErX (S.evs Γ (s :: r) env μ) x := ErX.rb0 (r := S.ev Γ s env μ) h
theorem e_raise (c : Str) : ErX (S.ev Γ (.raise c) env μ) ⟨c, []⟩ := ⟨μ, rfl⟩
theorem e_ife {c : X} {a b : List S} (h : Ok (c.ev Γ env μ) fun d m => ∃ t, d = .bl t ∧ (t = true → ErX (S.evs Γ a env m) x) ∧ (t = false → ErX (S.evs Γ b env m) x)) : ErX (S.ev Γ (.ife c a b) env μ) x := by
  show ErX (Lv.rb (c.ev Γ env μ) _) x
  refine ErX.rb (h.imp ?_)
  rintro d m ⟨t, rfl, h1, h2⟩
  cases t with
  | true => exact h1 rfl
  | false => exact h2 rfl
theorem e_expr {y : X} (h : ErX (y.ev Γ env μ) x) : ErX (S.ev Γ (.expr y) env μ) x := ErX.rb0 (r := y.ev Γ env μ) h
theorem e_call {f dn : Nat} {fz : Bool} {xs : List X} (h : Ok (X.evs Γ xs env μ) fun ds m => ErX (fnth Γ f dn fz ds m) x) : ErX (X.ev Γ (.call f dn fz xs) env μ) x := ErX.rb (r := X.evs Γ xs env μ) h
/-- a call of a def that raises -/
theorem call_er {f dn : Nat} {fz : Bool} {ds es : List D} {F : Fn} (hF : Γ.lookup f = some F) (hl : lendA μ F.bo (ds ++ List.replicate dn .non) = some es) (hp : es.length = F.ps.length) (hr : F.run es = some (.error x)) : ErX (fnth Γ f dn fz ds μ) x := by
  refine ⟨μ, ?_⟩
  unfold fnth
  rw [hF]
  show dCall F dn fz ds μ = _
  unfold dCall
  rw [hl]
  simp only
  rw [if_pos hp, hr]
theorem call_erE {f dn : Nat} {fz : Bool} {ds es : List D} {F : Fn} (hF : Γ.lookup f = some F) (hl : lendA μ F.bo (ds ++ List.replicate dn .non) = some es) (hp : es.length = F.ps.length) (hr : F.run es = some (.error x)) : fnth Γ f dn fz ds μ = some (.error (x, μ)) := by
  unfold fnth
  rw [hF]
  show dCall F dn fz ds μ = _
  unfold dCall
  rw [hl]
  simp only
  rw [if_pos hp, hr]
theorem run_er {N : List Str} {body : List S} {ds : List D} (h : ErX (S.evs Γ body (ds.map some ++ List.replicate (N.length - ds.length) none) []) x) : runDef Γ N body ds = some (.error x) := by
  obtain ⟨m, e⟩ := h
  unfold runDef
  rw [e]
/-! tries -/
end
end Lv
namespace Lv
open PySem PySem.Spec PyProof.Rows
theorem ev_rows0 (xs : List (List Int)) : PyData.eqv (.list (xs.map rP)) (.list []) = decide (xs = []) := ev_rows xs []
theorem ev_0rows (xs : List (List Int)) : PyData.eqv (.list []) (.list (xs.map rP)) = decide ([] = xs) := ev_rows [] xs
end Lv
/-! classes asked of -/
namespace Lv
open PySem PySem.Spec PyProof.Rows L2
open PySem.W in
theorem kit_ref {K : PySem.W.Frag} {D C : Addr} {b : Bool} (hdct : hasDictIn K C = true) (ht : typeIn K (.ref C) = some (.type "type")) (h4 : subIn K (.ref D) (.ref C) = some b) (hr : subIn K (.ref D) (.ref D) = some true) : kitOne K (.ref D) (.ref C) = some b := by
  obtain ⟨cd, hc, _⟩ := any_some hdct
  unfold kitOne
  by_cases e : (Value.ref D == Value.ref C) = true
  · have e' : D = C := Value.ref.inj (eq_of_beq e)
    rw [if_pos e]
    subst e'
    rw [hr] at h4
    exact h4
  · rw [if_neg e]
    have e2 : ((clsIn K C).isSome && typeIn K (.ref C) == some (.type "type")) = true := by rw [hc, ht] <;> rfl
    show (if ((clsIn K C).isSome && typeIn K (.ref C) == some (.type "type")) = true then subIn K (.ref D) (.ref C) else none) = some b
    rw [if_pos e2]
    exact h4
open PySem.W in
theorem kit_val {K : PySem.W.Frag} {D : Addr} {b : Bool} (h4 : subIn K (.ref D) (.type "ValueError") = some b) : kitOne K (.ref D) (.type "ValueError") = some b := by
  unfold kitOne
  have e0 : ¬ (Value.ref D == Value.type "ValueError") = true := fun z => nomatch eq_of_beq z
  rw [if_neg e0]
  have e1 : kitMeta "ValueError" = true := by decide +kernel
  show (if kitMeta "ValueError" = true then subIn K (.ref D) (.type "ValueError") else none) = some b
  rw [if_pos e1]
  exact h4
end Lv
/-! lists and tuples of whole numbers, compared -/
namespace Lv
open PySem PySem.Spec PyProof.Rows
section
variable {K : Bool → Prop} {xs ys : List Int}
theorem lt_lists : PySem.W.dataLt (.list (xs.map .int)) (.list (ys.map .int)) = decide (xs < ys) := by
  rw [PySem.W.dataLt_list]
  exact PySem.W.dataLt_ints xs ys
theorem lt_tups : PySem.W.dataLt (.tuple (xs.map .int)) (.tuple (ys.map .int)) = decide (xs < ys) := by
  rw [PySem.W.dataLt_tuple]
  exact PySem.W.dataLt_ints xs ys
theorem al_lists : PySem.W.alike (.list (xs.map .int)) (.list (ys.map .int)) = true := by
  rw [PySem.W.alike]
  exact PySem.W.alike_ints xs ys
theorem al_tups : PySem.W.alike (.tuple (xs.map .int)) (.tuple (ys.map .int)) = true := by
  rw [PySem.W.alike]
  exact PySem.W.alike_ints xs ys
theorem c_gtL : cmpP .gt (some (.list (xs.map .int))) (some (.list (ys.map .int))) K = K (decide (ys < xs)) := by
  show (match (if (PySem.W.alike (.list (xs.map .int)) (.list (ys.map .int)) && true) = true then some (PySem.W.dataLt (.list (ys.map .int)) (.list (xs.map .int))) else none) with
    | some b => K b
    | none => False) = _
  rw [al_lists, lt_lists]
  rfl
theorem c_ltL : cmpP .lt (some (.list (xs.map .int))) (some (.list (ys.map .int))) K = K (decide (xs < ys)) := by
  show (match (if (PySem.W.alike (.list (xs.map .int)) (.list (ys.map .int)) && true) = true then some (PySem.W.dataLt (.list (xs.map .int)) (.list (ys.map .int))) else none) with
    | some b => K b
    | none => False) = _
  rw [al_lists, lt_lists]
  rfl
theorem c_leTs : cmpP .le (some (.tuple (xs.map .int))) (some (.tuple (ys.map .int))) K = K (!decide (ys < xs)) := by
  show (match (if (PySem.W.alike (.tuple (xs.map .int)) (.tuple (ys.map .int)) && true) = true then some (!PySem.W.dataLt (.tuple (ys.map .int)) (.tuple (xs.map .int))) else none) with
    | some b => K b
    | none => False) = _
  rw [al_tups, lt_tups]
  rfl
theorem ev_tints : PyData.eqv (.tuple (xs.map .int)) (.tuple (ys.map .int)) = decide (xs = ys) := by
  rw [ev_tup]
  exact ev_maps ev_int xs ys
end
end Lv
/-! the greatest of a list -/
namespace Lv
open PySem PySem.Spec PyProof.Rows
end Lv
namespace Lv
theorem p_intB {Q : D → Sto → Prop} {μ : Sto} {lv b : Bool} : Ok (BI.d lv .int [.bl b] μ) Q = Q (.int (if b = true then 1 else 0)) μ := rfl
theorem p_intI {Q : D → Sto → Prop} {μ : Sto} {lv : Bool} {i : Int} : Ok (BI.d lv .int [.int i] μ) Q = Q (.int i) μ := rfl
end Lv
set_option Elab.async false
set_option linter.all false
set_option maxRecDepth 100000
set_option autoImplicit false
/-! runs with dicts -/
namespace Lv
open PySem PySem.Spec PyProof.Rows L2
section
variable {Γ : List (Nat × Fn)} {env : Env} {μ : Sto} {Q : D → Sto → Prop} {QU : Unit → Sto → Prop} {P : Fl → Sto → Prop} {n : Nat}
theorem o_dix (x y : X) : Ok (X.ev Γ (.dix x y) env μ) Q = Ok (x.ev Γ env μ) fun d μ1 => Ok (y.ev Γ env μ1) fun e μ2 => Ok (dDix d e μ2) Q := by
  show Ok (rb (x.ev Γ env μ) fun d μ1 => rb (y.ev Γ env μ1) fun e μ2 => dDix d e μ2) Q = _
  simp only [Ok_rb]
theorem o_din (neg : Bool) (x y : X) : Ok (X.ev Γ (.din neg x y) env μ) Q = Ok (x.ev Γ env μ) fun d μ1 => Ok (y.ev Γ env μ1) fun e μ2 => Ok (dDin neg d e μ2) Q := by
  show Ok (rb (x.ev Γ env μ) fun d μ1 => rb (y.ev Γ env μ1) fun e μ2 => dDin neg d e μ2) Q = _
  simp only [Ok_rb]
theorem o_dnewK : Ok (X.ev Γ (.dnew false) env μ) Q = Q (.ref μ.length) (μ ++ [.dK .live []]) := rfl
theorem o_dkeys (lv : Bool) (xs : List X) : Ok (X.ev Γ (.dkeys lv xs) env μ) Q = Ok (X.evs Γ xs env μ) fun ds μ1 => Ok (dKeys lv ds μ1) Q := by
  show Ok (rb (X.evs Γ xs env μ) (dKeys lv)) Q = _
  rw [Ok_rb]
theorem o_dlen (xs : List X) : Ok (X.ev Γ (.dlen xs) env μ) Q = Ok (X.evs Γ xs env μ) fun ds μ1 => Ok (dDlen ds μ1) Q := by
  show Ok (rb (X.evs Γ xs env μ) dDlen) Q = _
  rw [Ok_rb]
def lookP (x y : D) (μ : Sto) (K : Option D → Prop) : Prop := match dLook x y μ with
  | some o => K o
  | none => False
theorem o_dget (x : X) (ys : List X) : Ok (X.ev Γ (.dget x ys) env μ) Q = Ok (x.ev Γ env μ) fun d μ1 => isDc μ1 d = true ∧ Ok (X.evs Γ ys env μ1) fun ds μ2 => Ok (dGetL d ds μ2) Q := by
  show Ok (rb (x.ev Γ env μ) fun d μ1 => if isDc μ1 d = true then rb (X.evs Γ ys env μ1) fun ds μ2 => dGetL d ds μ2 else none) Q = _
  rw [Ok_rb]
  congr 1
  funext d μ1
  rw [Ok_guard, Ok_rb]
theorem p_get1 (d y : D) : Ok (dGetL d [y] μ) Q = lookP d y μ fun o => Q (o.getD .non) μ := by
  show Ok (match dLook d y μ with
    | some o => ok (o.getD .non) μ
    | none => none) Q = _
  unfold lookP
  cases dLook d y μ <;> rfl
theorem p_get2 (d y z : D) : Ok (dGetL d [y, z] μ) Q = lookP d y μ fun o => Q (o.getD z) μ := by
  show Ok (match dLook d y μ with
    | some o => ok (o.getD z) μ
    | none => none) Q = _
  unfold lookP
  cases dLook d y μ <;> rfl
theorem p_dix (x y : D) : Ok (dDix x y μ) Q = lookP x y μ fun o => ∃ d, o = some d ∧ Q d μ := by
  unfold dDix lookP
  cases h : dLook x y μ with
  | none => rfl
  | some o =>
    cases o with
    | none => simp [Ok_none]
    | some d => simp [Ok_ok]
theorem p_din (y x : D) : Ok (dDin false y x μ) Q = lookP x y μ fun o => Q (.bl o.isSome) μ := by
  unfold dDin lookP
  cases dLook x y μ <;> rfl
theorem p_dnin (y x : D) : Ok (dDin true y x μ) Q = lookP x y μ fun o => Q (.bl (!o.isSome)) μ := by
  unfold dDin lookP
  cases dLook x y μ <;> rfl
def cellKP (o : Option Cell) (K : List (Key × D) → Prop) : Prop := match o with
  | some (.dK _ kvs) => K kvs
  | _ => False
def liveKP (o : Option Cell) (K : List (Key × D) → Prop) : Prop := match o with
  | some (.dK .live kvs) => K kvs
  | _ => False
theorem cellK_k {m : Mode} {kvs : List (Key × D)} {K : List (Key × D) → Prop} : cellKP (some (.dK m kvs)) K = K kvs := rfl
theorem liveK_k {kvs : List (Key × D)} {K : List (Key × D) → Prop} : liveKP (some (.dK .live kvs)) K = K kvs := rfl
theorem look_K {b : Bool} {kvs : List (Key × D)} {i : Int} {K : Option D → Prop} : lookP (.dK b kvs) (.int i) μ K = K (valD kvs (.inl i)) := rfl
theorem look_KN {b : Bool} {kvs : List (Key × D)} {K : Option D → Prop} : lookP (.dK b kvs) .non μ K = K none := rfl
theorem look_R {i : Int} {K : Option D → Prop} : lookP (.ref n) (.int i) μ K = cellKP μ[n]? fun kvs => K (valD kvs (.inl i)) := by
  cases h : μ[n]? with
  | none => simp [lookP, dLook, seeK, seeT, keyD, cellKP, h]
  | some c => cases c <;> simp [lookP, dLook, seeK, seeT, keyD, cellKP, h]
theorem look_RN {K : Option D → Prop} : lookP (.ref n) .non μ K = cellKP μ[n]? fun _ => K none := by
  cases h : μ[n]? with
  | none => simp [lookP, dLook, seeK, seeT, keyD, cellKP, h]
  | some c => cases c <;> simp [lookP, dLook, seeK, seeT, keyD, cellKP, h]
theorem isDc_K {b : Bool} {kvs : List (Key × D)} : (isDc μ (.dK b kvs) = true) = True := by simp [isDc, seeK]
theorem isDc_R : (isDc μ (.ref n) = true) = match μ[n]? with
    | some (.dK _ _) => True
    | some (.dT _ _) => True
    | _ => False := by
  cases h : μ[n]? with
  | none => simp [isDc, seeK, seeT, h]
  | some c => cases c <;> simp [isDc, seeK, seeT, h]
theorem p_dput {i : Int} {d : D} : Ok (dPut (.ref n) (.int i) d μ) QU = liveKP μ[n]? fun kvs => kvs.length < LIM ∧ QU () (μ.set n (.dK .live (putD kvs (.inl i) d))) := by
  cases h : μ[n]? with
  | none => simp [dPut, liveKP, keyD, h, Ok_none]
  | some c =>
    cases c with
    | lst m xs => simp [dPut, liveKP, keyD, h, Ok_none]
    | dT m xs => cases m <;> simp [dPut, liveKP, keyD, h, Ok_none]
    | lkT _ => simp [dPut, liveKP, keyD, h, Ok_none]
    | lkK _ => simp [dPut, liveKP, keyD, h, Ok_none]
    | exn _ _ => simp [dPut, liveKP, keyD, h, Ok_none]
    | ins _ _ => simp [dPut, liveKP, keyD, h, Ok_none]
    | dK m xs =>
      cases m with
      | live =>
        simp only [dPut, liveKP, keyD, h]
        rw [Ok_guard, Ok_ok]
      | lock => simp [dPut, liveKP, keyD, h, Ok_none]
      | fz => simp [dPut, liveKP, keyD, h, Ok_none]
theorem p_dkeys {lv b : Bool} {kvs : List (Key × D)} : Ok (dKeys lv [.dK b kvs] μ) Q = Ok (alloc lv (kvs.map fun kv => keyR kv.1) μ) Q := rfl
theorem p_dkeysR {lv : Bool} : Ok (dKeys lv [.ref n] μ) Q = cellKP μ[n]? fun kvs => Ok (alloc lv (kvs.map fun kv => keyR kv.1) μ) Q := by
  cases h : μ[n]? with
  | none => simp [dKeys, seeK, cellKP, h, Ok_none]
  | some c => cases c <;> simp [dKeys, seeK, cellKP, h, Ok_none]
theorem p_dlen {b : Bool} {kvs : List (Key × D)} : Ok (dDlen [.dK b kvs] μ) Q = Q (.int (kvs.length : Nat)) μ := rfl
theorem o_dsetd (x y z : X) : Ok (X.ev Γ (.dsetd x y z) env μ) Q = Ok (x.ev Γ env μ) fun d μ1 => isDc μ1 d = true ∧ Ok (y.ev Γ env μ1) fun e μ2 => Ok (z.ev Γ env μ2) fun v μ3 => Ok (dSetd d e v μ3) Q := by
  show Ok (rb (x.ev Γ env μ) fun d μ1 => if isDc μ1 d = true then rb (y.ev Γ env μ1) fun e μ2 => rb (z.ev Γ env μ2) fun v μ3 => dSetd d e v μ3 else none) Q = _
  rw [Ok_rb]
  congr 1
  funext d μ1
  rw [Ok_guard, Ok_rb]
  congr 2
  funext e μ2
  rw [Ok_rb]
theorem o_dset (o i v : X) : Ok (S.ev Γ (.dset o i v) env μ) P = Ok (v.ev Γ env μ) fun d μ1 => Ok (o.ev Γ env μ1) fun o μ2 => Ok (i.ev Γ env μ2) fun i μ3 => Ok (dPut o i d μ3) fun _ μ4 => P (.nx env) μ4 := by
  show Ok (rb (v.ev Γ env μ) fun d μ1 => rb (o.ev Γ env μ1) fun o μ2 => rb (i.ev Γ env μ2) fun i μ3 => rb (dPut o i d μ3) fun _ μ4 => ok (.nx env) μ4) P = _
  simp only [Ok_rb, Ok_ok]
/-! a dict of whole numbers -/
def dctL (f : Int → D) (ks : List Int) : List (Key × D) := ks.map fun i => (.inl i, f i)
theorem dct_keys (f : Int → D) (ks : List Int) : (dctL f ks).map (fun kv => keyR kv.1) = ks.map D.int := by
  unfold dctL
  rw [List.map_map]
  rfl
theorem dct_len (f : Int → D) (ks : List Int) : (dctL f ks).length = ks.length := List.length_map ..
theorem dct_val (f : Int → D) : ∀ (ks : List Int) (i : Int), valD (dctL f ks) (.inl i) = if i ∈ ks then some (f i) else none
  | [], i => rfl
  | k :: r, i => by
    have ih := dct_val f r i
    unfold valD dctL at ih ⊢
    by_cases q : k = i
    · subst q
      simp
    · rw [List.map_cons, List.find?_cons_of_neg (by simp [q]), ih]
      simp [Ne.symm q]
theorem cl_dK {kvs : List (Key × D)} : (D.dK false kvs).clean = D.cleanK kvs := rfl
theorem le_dK {b : Bool} {kvs : List (Key × D)} : lend μ (n + 1) (.dK b kvs) = (okv (lend μ n) kvs).map (.dK true) := rfl
end
end Lv
set_option Elab.async false
set_option linter.all false
set_option maxRecDepth 100000
set_option autoImplicit false
/-! rules for objects and for calls in the caller's own store -/
namespace Lv
open PySem PySem.Spec PyProof.Rows
end Lv
/-! runs that raise, with the store they leave -/
namespace Lv
open PySem PySem.Spec PyProof.Rows
end Lv
/-! comprehensions whose turns change the store -/
namespace Lv
open PySem PySem.Spec PyProof.Rows
end Lv
set_option Elab.async false
set_option linter.all false
set_option maxRecDepth 100000
set_option autoImplicit false
/-! runs with displays, dicts by texts and by tuples -/
namespace Lv
open PySem PySem.Spec PyProof.Rows L2
/-! for k, v in d.items() -/
/-! d.pop(k) -/
/-! list.remove of a text -/
/-! list.index of a text -/
end Lv
set_option Elab.async false
set_option linter.all false
set_option maxRecDepth 100000
set_option autoImplicit false
/-! calculus: loops over a dict's keys, exceptions with fields, several clauses -/
namespace Lv
open PySem PySem.Spec PyProof.Rows L2
def exnP (o : Option Cell) (K : List (Str × D) → Prop) : Prop := match o with
  | some (.exn _ fs) => K fs
  | _ => False
section
variable {Γ : List (Nat × Fn)} {env : Env} {μ : Sto} {Q : D → Sto → Prop} {n : Nat}
theorem exnP_i {c : Str} {fs : List (Str × D)} {K : List (Str × D) → Prop} : exnP (some (.exn c fs)) K = K fs := rfl
theorem o_mkE (c : Str) (fns : List Str) (xs : List X) : Ok (X.ev Γ (.mkE c fns xs) env μ) Q = Ok (X.evs Γ xs env μ) fun ds m => (ds.all scalD && decide (ds.length = fns.length)) = true ∧ Q (.ref m.length) (m ++ [.exn c (mkFs fns ds)]) := by
  show Ok (rb (X.evs Γ xs env μ) (dMkE c fns)) Q = _
  rw [Ok_rb]
  congr 1
  funext ds m
  unfold dMkE
  rw [Ok_guard, Ok_ok]
theorem o_attrE (x : X) (f : Str) : Ok (X.ev Γ (.attrE x f) env μ) Q = Ok (x.ev Γ env μ) fun d m => Ok (dAttrE f d m) Q := by
  show Ok (rb (x.ev Γ env μ) (dAttrE f)) Q = _
  rw [Ok_rb]
theorem p_attrE {f : Str} : Ok (dAttrE f (.ref n) μ) Q = exnP μ[n]? fun fs => ∃ x, fs.lookup f = some x ∧ Q x μ := by
  unfold dAttrE exnP
  simp only
  cases h : μ[n]? with
  | none => rfl
  | some c =>
    cases c with
    | exn c fs =>
      simp only
      cases e : fs.lookup f with
      | none => simp [Ok_none]
      | some d => simp [Ok_ok]
    | _ => rfl
theorem e_raiseF {c : Str} {fns : List Str} {xs : List X} {x : Exn} (h : Ok (X.evs Γ xs env μ) fun ds _ => (ds.all scalD && decide (ds.length = fns.length)) = true ∧ x = ⟨c, mkFs fns ds⟩) : ErX (S.ev Γ (.raiseF c fns xs) env μ) x := by
  obtain ⟨ds, m, e, q, rfl⟩ := h.elim
  refine ⟨m, ?_⟩
  show rb (X.evs Γ xs env μ) (dRaise c fns) = _
  rw [e]
  show dRaise c fns ds m = _
  unfold dRaise
  rw [if_pos q]
/-! several clauses -/
theorem o_tryM {rs : List Str} {b : TB} {hs : List (Str × Nat × Nat × List EX)} {P : Fl → Sto → Prop} (h : Ok (b.ev Γ env μ) fun e m => P (.nx e) m) : Ok (S.ev Γ (.tryM rs b hs) env μ) P := by
  show Ok (sTryM Γ rs b hs env μ) P
  unfold sTryM
  obtain ⟨e, m, e1, q⟩ := h.elim
  rw [e1]
  exact q
theorem o_tryMX {rs : List Str} {b : TB} {hs : List (Str × Nat × Nat × List EX)} {P : Fl → Sto → Prop} {x : Exn} {m : Sto} (h : b.ev Γ env μ = some (.error (x, m))) (h1 : x.cls ∈ rs) (q : Ok (hndM x env m hs) P) : Ok (S.ev Γ (.tryM rs b hs) env μ) P := by
  show Ok (sTryM Γ rs b hs env μ) P
  unfold sTryM
  rw [h]
  simp only
  rw [if_pos (decide_eq_true h1)]
  exact q
theorem hnd_skip {x : Exn} {exc : Str} {j i : Nat} {xs : List EX} {r : List (Str × Nat × Nat × List EX)} {P : Fl → Sto → Prop} (h : subE x.cls exc = false) (q : Ok (hndM x env μ r) P) : Ok (hndM x env μ ((exc, j, i, xs) :: r)) P := by
  unfold hndM
  rw [if_neg (by rw [h]; exact Bool.false_ne_true)]
  exact q
theorem hnd_take {x : Exn} {exc : Str} {j i : Nat} {xs : List EX} {r : List (Str × Nat × Nat × List EX)} {P : Fl → Sto → Prop} {ds : List D} {m1 : Sto} (h : subE x.cls exc = true) (hj : j < env.length ∧ i ≠ j) (he : EX.evs exc x xs (env.set j none) μ = some (.ok (ds, m1))) (hl : ds.length ≤ LIM)
    (q : P (.nx (((env.set j none).set i (some (.ref m1.length))).set j none)) (m1 ++ [.lst .live ds])) : Ok (hndM x env μ ((exc, j, i, xs) :: r)) P := by
  unfold hndM
  rw [if_pos h, if_pos hj, he]
  show Ok (match (dLst true ds m1 : R D) with
    | some (.ok (d, m1)) => ok (.nx (((env.set j none).set i (some d)).set j none)) m1
    | _ => none) P
  unfold dLst
  rw [if_pos hl]
  exact q
theorem o_tbsetL {i f dn : Nat} {pre : List Int} {fz : Bool} {xs : List X} {P : Env → Sto → Prop} (h : Ok (X.evs Γ xs env μ) fun ds m => Ok (fnth Γ f dn fz ds m) fun d m2 => pre.length + 1 ≤ LIM ∧ P (env.set i (some (.ref m2.length))) (m2 ++ [.lst .live (pre.map D.int ++ [d])])) : Ok (TB.ev Γ (.setL i pre f dn fz xs) env μ) P := by
  show Ok (Lv.rb (noErr (X.evs Γ xs env μ)) _) P
  rw [Ok_rb]
  refine (h.noErr).imp ?_
  intro ds m q
  rw [Ok_rb]
  refine q.imp ?_
  rintro d m2 ⟨hl, q⟩
  rw [Ok_rb]
  have e : (noErr (dLst true (pre.map D.int ++ [d]) m2) : R D) = ok (.ref m2.length) (m2 ++ [.lst .live (pre.map D.int ++ [d])]) := by
    unfold dLst
    rw [if_pos (by rw [List.length_append, List.length_map]; exact hl)]
    rfl
  rw [e]
  exact q
theorem e_tbsetL {i f dn : Nat} {pre : List Int} {fz : Bool} {xs : List X} {x : Exn} {m : Sto} (h : Ok (X.evs Γ xs env μ) fun ds m2 => fnth Γ f dn fz ds m2 = some (.error (x, m))) : TB.ev Γ (.setL i pre f dn fz xs) env μ = some (.error (x, m)) := by
  show Lv.rb (noErr (X.evs Γ xs env μ)) _ = _
  obtain ⟨ds, m2, e, q⟩ := h.elim
  rw [e]
  show Lv.rb (fnth Γ f dn fz ds m2) _ = _
  rw [q]
  rfl
end
/-! for k in d -/
end Lv
set_option Elab.async false
set_option linter.all false
set_option maxRecDepth 100000
set_option autoImplicit false
set_option maxHeartbeats 0
namespace Lk04
open PySem PySem.Spec PyProof.Rows L2 Lv
def AllMk : Prop := ∀ (w : World) (K : PySem.W.Frag) (h : Heap) (mg : Str → Option Value) (fa : Addr), K.In h → h.Ns mainGlobals mg → mg "law" = some (.ref fa) → obsM ckL fnL K = valM fnL → ∃ fd : FuncData, (∀ (s : Shared) (v : Value), BindsTo s fd ⟨[v], []⟩ [("_law_script", v)]) ∧ ∀ base : Heap, K.In base → base.Ns mainGlobals mg → FnOk (PySem.W.OpenLaw.prog PySem.Challenge.rw_leastenvy_k04_things_given) w K mg base CX0 12 fa fd ["_law_script"] (spLaw K)
end Lk04
open PySem PySem.W PyProof.Rows in
set_option maxRecDepth 100000 in
set_option maxHeartbeats 0 in
theorem Lk04.cw_of (hall : Lk04.AllMk) : PySem.Challenge.rw_leastenvy_k04_things_given.Holds := by
  w_on; o_law
  refine HandSHeadRun.head_any (r := OpenLaw.row PySem.Challenge.rw_leastenvy_k04_things_given) (q := view (OpenLaw.row PySem.Challenge.rw_leastenvy_k04_things_given).prog [29]) (H := Lk04.hk) (ob := Lk04.hob) (M := 7330) (loose := Lk04.nmL) (d := HandSHeadRun.topDef (OpenLaw.row PySem.Challenge.rw_leastenvy_k04_things_given).prog 29) (kwd := []) Lk04.hob_eq (by kernel_rfl) (fun s => by kernel_rfl) Lk04.hrun (by kernel_rfl) (by kernel_rfl) (by kernel_rfl) (by rfl) (by first | assumption | decide +kernel) (by decide +kernel) ⟨rfl, rfl, rfl, rfl, rfl, by decide +kernel⟩ ?hw ?hc
  case hw => w_witness2
  case hc =>
    refine L2.walk_ofE (l := PySem.Challenge.rw_leastenvy_k04_things_given) (n := 63) (k := 12) (x := "_law_script") (CX := L2.CX0) rfl (by decide) (by kernel_rfl) ⟨rfl, by decide, by decide⟩ ?F (fun _ _ _ _ z => z)
    intro w mg fa h Y G hmg0
    obtain ⟨K, KX, c⟩ := Y
    have hmg : mg ("law" : PySem.Str) = some (.ref fa) := by
      have e : (HandSHeadRun.topDef (OpenLaw.row PySem.Challenge.rw_leastenvy_k04_things_given).prog 29).name = ("law" : PySem.Str) := by kernel_rfl
      rw [← e]
      exact hmg0
    obtain ⟨fd, hb, hF⟩ := hall w K h mg fa KX G hmg c
    exact ⟨K, fd, Lv.spLaw K, KX, hb, fun H a ns hl _ hS => ⟨a, ns, rfl, hS, hl, fun _ => rfl⟩, hF⟩
set_option Elab.async false
set_option linter.all false
set_option maxRecDepth 100000
set_option autoImplicit false
set_option maxHeartbeats 0
namespace Lk04
open PySem PySem.Spec PyProof.Rows Lv
def RS : List Str := ["Held", "NoHand", "NoThing"]
def OB : Ob := ⟨[], [], [], [], [("_law_others", ["NoDealer", "NoName", "NoNumber", "NoOrder", "NoRing", "NoRow", "NotFair", "NotTwo", "NoWeights", "TooMany", "Twice"])], [("Held", ["hand"])]⟩
def N_things_of : List Str := ["table"]
def b_things_of : List S :=
  [.ret (.bi .len false [.ix (.var 0) (.int 0)])]
def G_things_of : List (Nat × Fn) := []
def F_things_of : Fn := ⟨"things_of", ["table"], [true], 0, runDef G_things_of N_things_of b_things_of, [], runDefS G_things_of N_things_of b_things_of⟩
theorem B_things_of : F_things_of.bo = [true] := (rfl)
theorem R_things_of : F_things_of.run = runDef G_things_of N_things_of b_things_of := (rfl)
def N_check_thing : List Str := ["table", "thing"]
def b_check_thing : List S :=
  [.ife (.not (.chain .le .lt (.int 0) (.var 1) (.call 199 0 true [.var 0])))
  [.raise "NoThing"]
  []]
def G_check_thing : List (Nat × Fn) := (199, F_things_of) :: G_things_of
def F_check_thing : Fn := ⟨"check_thing", ["table", "thing"], [true, true], 0, runDef G_check_thing N_check_thing b_check_thing, [], runDefS G_check_thing N_check_thing b_check_thing⟩
theorem B_check_thing : F_check_thing.bo = [true, true] := (rfl)
theorem R_check_thing : F_check_thing.run = runDef G_check_thing N_check_thing b_check_thing := (rfl)
def N_hands_of : List Str := ["table"]
def b_hands_of : List S :=
  [.ret (.bi .len false [.var 0])]
def G_hands_of : List (Nat × Fn) := (145, F_check_thing) :: G_check_thing
def F_hands_of : Fn := ⟨"hands_of", ["table"], [true], 0, runDef G_hands_of N_hands_of b_hands_of, [], runDefS G_hands_of N_hands_of b_hands_of⟩
theorem B_hands_of : F_hands_of.bo = [true] := (rfl)
theorem R_hands_of : F_hands_of.run = runDef G_hands_of N_hands_of b_hands_of := (rfl)
def N_check_hand : List Str := ["table", "hand"]
def b_check_hand : List S :=
  [.ife (.not (.chain .le .lt (.int 0) (.var 1) (.call 163 0 true [.var 0])))
  [.raise "NoHand"]
  []]
def G_check_hand : List (Nat × Fn) := (163, F_hands_of) :: G_hands_of
def F_check_hand : Fn := ⟨"check_hand", ["table", "hand"], [true, true], 0, runDef G_check_hand N_check_hand b_check_hand, [], runDefS G_check_hand N_check_hand b_check_hand⟩
theorem B_check_hand : F_check_hand.bo = [true, true] := (rfl)
theorem R_check_hand : F_check_hand.run = runDef G_check_hand N_check_hand b_check_hand := (rfl)
def N_thing_given : List Str := ["table", "deal", "thing", "hand"]
def b_thing_given : List S :=
  [.expr (.call 145 0 true [.var 0, .var 2]),
   .expr (.call 143 0 true [.var 0, .var 3]),
   .ife (.notN (.ix (.var 1) (.var 2)))
  [.raiseF "Held" ["hand"] [.ix (.var 1) (.var 2)]]
  [],
   .ret (.bin .add true (.bin .add false (.slice false (.var 1) [] [.var 2]) (.lst false [.var 3])) (.slice false (.var 1) [.bin .add false (.var 2) (.int 1)] []))]
def G_thing_given : List (Nat × Fn) := (143, F_check_hand) :: G_check_hand
def F_thing_given : Fn := ⟨"thing_given", ["table", "deal", "thing", "hand"], [true, true, true, true], 0, runDef G_thing_given N_thing_given b_thing_given, [], runDefS G_thing_given N_thing_given b_thing_given⟩
theorem B_thing_given : F_thing_given.bo = [true, true, true, true] := (rfl)
theorem R_thing_given : F_thing_given.run = runDef G_thing_given N_thing_given b_thing_given := (rfl)
def N__law_told : List Str := ["_law_table", "_law_deal", "_law_thing", "_law_hand", "_law_found", "_law_e"]
def b__law_told : List S :=
  [.set 4 (.lst false []),
   .tryM RS (.setL 4 [0] 198 0 true [.var 0, .var 1, .var 2, .var 3]) [("Held", 5, 4, [.int 3, .fld "hand", .tst (.isT ["NoThing", "NoHand"]), .tst (.pred "_law_others" ["NoDealer", "NoName", "NoNumber", "NoOrder", "NoRing", "NoRow", "NotFair", "NotTwo", "NoWeights", "TooMany", "Twice"]), .tst (.is1 "EnvyError")]), ("NoHand", 5, 4, [.int 2, .tst (.isT ["NoThing", "Held"]), .tst (.pred "_law_others" ["NoDealer", "NoName", "NoNumber", "NoOrder", "NoRing", "NoRow", "NotFair", "NotTwo", "NoWeights", "TooMany", "Twice"]), .tst (.is1 "EnvyError"), .tst (.is1 "ValueError")]), ("NoThing", 5, 4, [.int 1, .tst (.isT ["NoHand", "Held"]), .tst (.pred "_law_others" ["NoDealer", "NoName", "NoNumber", "NoOrder", "NoRing", "NoRow", "NotFair", "NotTwo", "NoWeights", "TooMany", "Twice"]), .tst (.is1 "EnvyError"), .tst (.is1 "ValueError")])],
   .ret (.var 4)]
def G__law_told : List (Nat × Fn) := (198, F_thing_given) :: G_thing_given
def F__law_told : Fn := ⟨"_law_told", ["_law_table", "_law_deal", "_law_thing", "_law_hand"], [true, true, true, true], 0, runDef G__law_told N__law_told b__law_told, [], runDefS G__law_told N__law_told b__law_told⟩
theorem B__law_told : F__law_told.bo = [true, true, true, true] := (rfl)
theorem R__law_told : F__law_told.run = runDef G__law_told N__law_told b__law_told := (rfl)
def N__law_far : List Str := ["_law_cell", "_law_many", "_law_far_here"]
def b__law_far : List S :=
  [.set 2 (.bin .mod false (.bin .div false (.var 0) (.int 64)) (.bin .pow false (.int 10) (.int 20))),
   .ret (.ix (.lst false [.bin .sub false (.neg (.int 1)) (.var 2), .bin .add false (.var 1) (.var 2)]) (.bin .mod false (.var 0) (.int 2)))]
def G__law_far : List (Nat × Fn) := (113, F__law_told) :: G__law_told
def F__law_far : Fn := ⟨"_law_far", ["_law_cell", "_law_many"], [true, true], 0, runDef G__law_far N__law_far b__law_far, [], runDefS G__law_far N__law_far b__law_far⟩
theorem B__law_far : F__law_far.bo = [true, true] := (rfl)
theorem R__law_far : F__law_far.run = runDef G__law_far N__law_far b__law_far := (rfl)
def N__law_cell_at : List Str := ["_law_script", "_law_k"]
def b__law_cell_at : List S :=
  [.ife (.cmp .lt (.var 1) (.bi .len false [.var 0]))
  [.ret (.bin .mod true (.ix (.var 0) (.var 1)) (.bin .pow false (.int 10) (.int 24)))]
  [],
   .ret (.int 0)]
def G__law_cell_at : List (Nat × Fn) := (34, F__law_far) :: G__law_far
def F__law_cell_at : Fn := ⟨"_law_cell_at", ["_law_script", "_law_k"], [true, true], 0, runDef G__law_cell_at N__law_cell_at b__law_cell_at, [], runDefS G__law_cell_at N__law_cell_at b__law_cell_at⟩
theorem B__law_cell_at : F__law_cell_at.bo = [true, true] := (rfl)
theorem R__law_cell_at : F__law_cell_at.run = runDef G__law_cell_at N__law_cell_at b__law_cell_at := (rfl)
def N__law_due : List Str := ["_law_deal", "_law_hands", "_law_thing", "_law_hand"]
def b__law_due : List S :=
  [.ife (.not (.chain .le .lt (.int 0) (.var 2) (.bi .len false [.var 0])))
  [.ret (.lst true [.int 1, .bl false, .bl false, .bl true, .bl true])]
  [],
   .ife (.not (.chain .le .lt (.int 0) (.var 3) (.var 1)))
  [.ret (.lst true [.int 2, .bl false, .bl false, .bl true, .bl true])]
  [],
   .ife (.notN (.ix (.var 0) (.var 2)))
  [.ret (.lst true [.int 3, .ix (.var 0) (.var 2), .bl false, .bl false, .bl true])]
  [],
   .ret (.lst true [.int 0, .bin .add false (.bin .add false (.slice false (.var 0) [] [.var 2]) (.lst false [.var 3])) (.slice false (.var 0) [.bin .add false (.var 2) (.int 1)] [])])]
def G__law_due : List (Nat × Fn) := (16, F__law_cell_at) :: G__law_cell_at
def F__law_due : Fn := ⟨"_law_due", ["_law_deal", "_law_hands", "_law_thing", "_law_hand"], [true, true, true, true], 0, runDef G__law_due N__law_due b__law_due, [], runDefS G__law_due N__law_due b__law_due⟩
theorem B__law_due : F__law_due.bo = [true, true, true, true] := (rfl)
theorem R__law_due : F__law_due.run = runDef G__law_due N__law_due b__law_due := (rfl)
def N_law : List Str := ["_law_script", "_law_hands", "_law_things", "_law_table", "_law_hand", "_law_deal", "_law_k", "_law_cell", "_law_number", "_law_thing", "_law_handed", "_law_found"]
def b_law : List S :=
  [.set 1 (.bin .add false (.int 1) (.bin .mod false (.bin .mod false (.bin .mul false (.call 16 0 true [.var 0, .int 0]) (.int 16807)) (.int 2147483647)) (.int 6))),
   .set 2 (.bin .mod false (.bin .mod false (.bin .mul false (.call 16 0 true [.var 0, .int 1]) (.int 39373)) (.int 2147483629)) (.int 31)),
   .set 3 (.comp false (.rng [.var 1]) (.nm 4) [] (.bin .mul false (.lst false [.int 0]) (.var 2)) [4]),
   .set 5 (.bin .mul false (.lst false [.non]) (.var 2)),
   .for_ (.nm 6) (.rng [.bi .min2 false [.bi .len false [.var 0], .int 63]])
  [.set 7 (.bin .mod false (.ix (.var 0) (.var 6)) (.bin .pow false (.int 10) (.int 24))),
   .set 8 (.bin .mod false (.bin .mul false (.var 7) (.int 48271)) (.int 2147483647)),
   .set 9 (.bin .mod false (.bin .div false (.var 8) (.int 36)) (.bi .max2 false [.var 2, .int 1])),
   .set 4 (.bin .mod false (.bin .mod false (.bin .mul false (.var 7) (.int 69621)) (.int 2147483629)) (.var 1)),
   .ife (.cmp .eq (.bin .mod false (.var 8) (.int 6)) (.int 1))
  [.set 9 (.call 34 0 true [.var 7, .var 2])]
  [],
   .ife (.cmp .eq (.bin .mod false (.bin .div false (.var 8) (.int 6)) (.int 6)) (.int 1))
  [.set 4 (.call 34 0 true [.bin .div false (.var 7) (.int 3), .var 1])]
  [],
   .set 10 (.bi .list true [.var 5]),
   .set 11 (.call 113 0 true [.var 3, .var 10, .var 9, .var 4]),
   .ife (.or [.cmp .ne (.var 11) (.call 28 0 true [.var 5, .var 1, .var 9, .var 4]), .cmp .ne (.var 10) (.var 5)])
  [.ret (.bl false)]
  [],
   .ife (.cmp .eq (.ix (.var 11) (.int 0)) (.int 0))
  [.ife (.not (.isi .list (.ix (.var 11) (.int 1))))
  [.ret (.bl false)]
  [],
   .expr (.mth .clear (.var 10) []),
   .set 5 (.bi .list false [.ix (.var 11) (.int 1)])]
  [],
   .kill [4, 6, 7, 8, 9, 10, 11]],
   .ret (.and [.cmp .eq (.attrE (.mkE "Held" ["hand"] [.var 1]) "hand") (.var 1), .cmp .eq (.attrE (.mkE "Held" ["hand"] [.bin .add false (.var 2) (.int 1)]) "hand") (.bin .add false (.var 2) (.int 1))])]
def G_law : List (Nat × Fn) := (28, F__law_due) :: G__law_due
def F_law : Fn := ⟨"law", ["_law_script"], [true], 0, runDef G_law N_law b_law, [], runDefS G_law N_law b_law⟩
theorem R_law : F_law.run = runDef G_law N_law b_law := (rfl)
end Lk04
set_option Elab.async false
set_option linter.all false
set_option maxRecDepth 100000
set_option autoImplicit false
set_option maxHeartbeats 0
namespace Lk04
open PySem Lv
local macro_rules | `(tactic| push_cast [$xs,*]) => `(tactic| simp (disch := decide) only [o_dix, o_din, o_dnewK, o_dkeys, o_dlen, o_dget, o_dsetd, p_get1, p_get2, p_dix, p_din, p_dnin, look_K, look_KN, look_R, look_RN, isDc_K, isDc_R, p_dput, o_dset, p_dkeys, p_dkeysR, p_dlen, cellK_k, liveK_k, dct_val, dct_keys, dct_len, p_intB, p_intI, o_lrg3, o_maxX, o_callK, o_rng3, p_rng3, p_lrg3, rgN_neg, ev_00, c_gtL, c_ltL, c_leTs, ev_tints, ev_rows0, ev_0rows, fr_pair, fr_pairs, py_pair, py_pairs, ev_pair, ev_pairs, ev_pairs0, anyPr, p_minR, p_maxR, p_sumR, p_allR, p_anyR, p_sortedR, o_nil, o_ret, o_expr, o_set, o_asg, o_ife, o_setIx, o_aug, o_augIx, o_kill, o_pass, o_retN, seqP_nx, seqP_rt, o_var, o_int, o_bl, o_non, o_str, o_cst, o_bin, o_neg, o_cmp, o_chain, o_isN, o_notN, o_and, o_or, o_and1, o_or1, o_and2, o_or2, o_not, o_lst, o_tup, o_ix, o_slice, o_part0, o_part1, o_call, o_bi, o_isi, o_frz, o_isB, o_lrg, p_isB, p_lrg1, p_lrg2, o_rev, o_par, p_revL, p_revS, p_revR, ← List.map_reverse, o_mth0, o_mth, o_evs0, o_evs1, o_slst, o_stup, o_rng, o_enum, o_zip, o_enumT, o_lset, o_srtP, p_enumT, p_lset, p_srtP, p_listT, p_tupL, p_sliceT, p_divmod, p_var, v_0, v_s, p_add, p_addL, p_addT, p_sub, p_mul, p_mulL, p_div, p_mod, p_pow, p_neg, p_alF, p_alT, p_lst, p_tup, p_not, p_cmp, c_eq, c_ne, c_lt, c_gt, c_le, c_ge, c_in, c_nin, anyI, ev_ints0, ev_row0, ev_0ints, ev_ois0, p_isN, p_notN, p_ix, p_ixT, p_ixS, p_ixR, at_m, p_len, p_lenT, p_lenS, p_lenR, p_list, p_listS, p_listR, p_slice, p_allM, p_anyM, p_sumM, p_all, p_any, p_sum, p_max2, p_min2, p_remove, p_sorted, ints_snoc, ints_map, p_index, isl_l, py_drow, py_drows, ev_drow, ev_drows, fr_drow, fr_drows, p_sliceS, p_sliceR, p_src, p_srcS, p_srcT, p_srcR, src_l, src_f, p_rng1, p_rng2, p_enum, p_zip, p_app, p_pop, p_clear, p_rev, p_ext, p_ins, p_popAt, p_set, p_isi, p_frz, a_add, a_sub, a_mul, ixL, ixLR, cell_l, live_l, isl, py_int, py_bl, py_non, py_str, py_oi, py_lst, py_tup, py_scr, py_ints, py_bls, py_ois, py_row, py_rows, py_ref, ev_int, ev_bl, ev_str, ev_oi, ev_oI, ev_Io, ev_oN, ev_No, ev_ints, ev_row, ev_ois, ev_rows, non_oi, cut_map, ← List.map_take, ← List.map_drop, List.getElem?_cons_zero, List.getElem?_cons_succ, List.set_cons_zero, List.set_cons_succ, List.foldl_cons, List.foldl_nil, List.map_cons, List.map_nil, List.length_cons, List.length_nil, List.replicate, List.cons_append, List.nil_append, exists_eq_left, exists_eq_left', D.bl.injEq, D.int.injEq, D.tup.injEq, decide_eq_true_eq, decide_eq_false_iff_not, true_and, and_true, true_implies, List.length_map, fr_ref, fr_str, fr_ints, fr_ois, fr_rows, fr_int, fr_lst, fr_row, fr_oi, fr_bl, fr_non, fr_cons, fr_nil, fr_tup, Fl.rt.injEq, Fl.nx.injEq, ex_neg, ex_neg', Bool.not_eq_true', Bool.not_eq_false', Bool.not_not, wipeE, omap_cons, omap_nil, at_0, at_1, at_2, oi_some, oi_none, oP_some, oP_none, Option.some.injEq, end_get, end_set, beq_self_eq_true, bne_self_eq_false, tn, tn0, tn1, fitL, mL, mR, nc, nc0, nc1, c_ltT, c_gtT, c_leT, ev_tup, ev_listc, ev_cons, ev_nil, ev_list0, ev_0list, c_inT, c_ninT, LIM, Int.zero_add, gc_id, Nat.le_refl, Option.map_some, Option.bind_some, isi_s, ty_int, ty_bl, ty_non, ty_lst, ty_tup, ty_str, ty_ref, ty_cl, ty_oi, isTy, Int.reduceLE, Int.reduceLT, Int.reducePow, Int.reduceAdd, Int.reduceSub, Int.reduceMul, Int.reduceNeg, Int.reduceEq, Int.reduceGT, Int.reduceGE, Int.reduceNe, Nat.reduceAdd, Nat.reduceSub, Nat.reduceLT, Nat.reduceLeDiff, Nat.reduceMul, Nat.reducePow, Nat.reduceBEq, Nat.reduceEqDiff, Int.reduceToNat, Bool.not_eq_true, Bool.not_true, Bool.not_false, Bool.not_eq_false, Bool.not_eq_eq_eq_not, reduceCtorEq, if_true, if_false, false_implies, Bool.false_eq_true, Bool.true_eq_false, and_self, not_true, not_false_iff, implies_true, forall_const, true_or, or_true, and_false, false_and, ge_iff_le, gt_iff_lt, cl_dK, cl_pairs, g_s, p_gT, p_gF, Bool.and_true, Bool.true_and, Bool.and_self, cl_ints, cl_bls, cl_oi, cl_ois, cl_row, cl_rows, cl_drow, cl_drows, cl_app, cl_lst, cl_cons, cl_nil, cl_int, cl_bl, cl_non, cl_str, cl_tup, fit, mfit, rt_pairs, sh_pairs, rt_bl, rt_non, rt_str, rt_tup, sh_non, sh_str, sh_tup, rt_ints, rt_oi, rt_ois, rt_row, rt_rows, rt_drow, rt_drows, rt_ref, rt_int, rt_cell, rt_cons, rt_nil, rt_lst, rt_app, p_gF, List.all_cons, List.all_nil, sh_ints, sh_oi, sh_ois, sh_row, sh_rows, sh_drow, sh_drows, sh_ref, sh_int, sh_bl, sh_cell, sh_cons, sh_nil, sh_lst, Nat.zero_add, Nat.add_zero, $xs,*])
local macro_rules | `(tactic| simp? [$xs,*]) => `(tactic| simp (disch := decide) only [o_dix, o_din, o_dnewK, o_dkeys, o_dlen, o_dget, o_dsetd, p_get1, p_get2, p_dix, p_din, p_dnin, look_K, look_KN, look_R, look_RN, isDc_K, isDc_R, p_dput, o_dset, p_dkeys, p_dkeysR, p_dlen, cellK_k, liveK_k, dct_val, dct_keys, dct_len, p_intB, p_intI, o_lrg3, o_maxX, o_callK, o_rng3, p_rng3, p_lrg3, rgN_neg, ev_00, c_gtL, c_ltL, c_leTs, ev_tints, ev_rows0, ev_0rows, fr_pair, fr_pairs, py_pair, py_pairs, ev_pair, ev_pairs, ev_pairs0, anyPr, p_minR, p_maxR, p_sumR, p_allR, p_anyR, p_sortedR, o_nil, o_cons, o_ret, o_expr, o_set, o_asg, o_ife, o_setIx, o_aug, o_augIx, o_kill, o_pass, o_retN, seqP_nx, seqP_rt, o_var, o_int, o_bl, o_non, o_str, o_cst, o_bin, o_neg, o_cmp, o_chain, o_isN, o_notN, o_and, o_or, o_and1, o_or1, o_and2, o_or2, o_not, o_lst, o_tup, o_ix, o_slice, o_part0, o_part1, o_call, o_bi, o_isi, o_frz, o_isB, o_lrg, p_isB, p_lrg1, p_lrg2, o_rev, o_par, p_revL, p_revS, p_revR, ← List.map_reverse, o_mth0, o_mth, o_evs0, o_evs1, o_slst, o_stup, o_rng, o_enum, o_zip, o_enumT, o_lset, o_srtP, p_enumT, p_lset, p_srtP, p_listT, p_tupL, p_sliceT, p_divmod, p_var, v_0, v_s, p_add, p_addL, p_addT, p_sub, p_mul, p_mulL, p_div, p_mod, p_pow, p_neg, p_alF, p_alT, p_lst, p_tup, p_not, p_cmp, c_eq, c_ne, c_lt, c_gt, c_le, c_ge, c_in, c_nin, anyI, ev_ints0, ev_row0, ev_0ints, ev_ois0, p_isN, p_notN, p_ix, p_ixT, p_ixS, p_ixR, at_m, p_len, p_lenT, p_lenS, p_lenR, p_list, p_listS, p_listR, p_slice, p_allM, p_anyM, p_sumM, p_all, p_any, p_sum, p_max2, p_min2, p_remove, p_sorted, ints_snoc, ints_map, p_index, isl_l, py_drow, py_drows, ev_drow, ev_drows, fr_drow, fr_drows, p_sliceS, p_sliceR, p_src, p_srcS, p_srcT, p_srcR, src_l, src_f, p_rng1, p_rng2, p_enum, p_zip, p_app, p_pop, p_clear, p_rev, p_ext, p_ins, p_popAt, p_set, p_isi, p_frz, a_add, a_sub, a_mul, ixL, ixLR, cell_l, live_l, isl, py_int, py_bl, py_non, py_str, py_oi, py_lst, py_tup, py_scr, py_ints, py_bls, py_ois, py_row, py_rows, py_ref, ev_int, ev_bl, ev_str, ev_oi, ev_oI, ev_Io, ev_oN, ev_No, ev_ints, ev_row, ev_ois, ev_rows, non_oi, cut_map, ← List.map_take, ← List.map_drop, List.getElem?_cons_zero, List.getElem?_cons_succ, List.set_cons_zero, List.set_cons_succ, List.foldl_cons, List.foldl_nil, List.map_cons, List.map_nil, List.length_cons, List.length_nil, List.replicate, List.cons_append, List.nil_append, exists_eq_left, exists_eq_left', D.bl.injEq, D.int.injEq, D.tup.injEq, decide_eq_true_eq, decide_eq_false_iff_not, true_and, and_true, true_implies, List.length_map, fr_ref, fr_str, fr_ints, fr_ois, fr_rows, fr_int, fr_lst, fr_row, fr_oi, fr_bl, fr_non, fr_cons, fr_nil, fr_tup, Fl.rt.injEq, Fl.nx.injEq, ex_neg, ex_neg', Bool.not_eq_true', Bool.not_eq_false', Bool.not_not, wipeE, omap_cons, omap_nil, at_0, at_1, at_2, oi_some, oi_none, oP_some, oP_none, Option.some.injEq, end_get, end_set, beq_self_eq_true, bne_self_eq_false, tn, tn0, tn1, fitL, mL, mR, nc, nc0, nc1, c_ltT, c_gtT, c_leT, ev_tup, ev_listc, ev_cons, ev_nil, ev_list0, ev_0list, c_inT, c_ninT, LIM, Int.zero_add, gc_id, Nat.le_refl, Option.map_some, Option.bind_some, isi_s, ty_int, ty_bl, ty_non, ty_lst, ty_tup, ty_str, ty_ref, ty_cl, ty_oi, isTy, Int.reduceLE, Int.reduceLT, Int.reducePow, Int.reduceAdd, Int.reduceSub, Int.reduceMul, Int.reduceNeg, Int.reduceEq, Int.reduceGT, Int.reduceGE, Int.reduceNe, Nat.reduceAdd, Nat.reduceSub, Nat.reduceLT, Nat.reduceLeDiff, Nat.reduceMul, Nat.reducePow, Nat.reduceBEq, Nat.reduceEqDiff, Int.reduceToNat, Bool.not_eq_true, Bool.not_true, Bool.not_false, Bool.not_eq_false, Bool.not_eq_eq_eq_not, reduceCtorEq, if_true, if_false, false_implies, Bool.false_eq_true, Bool.true_eq_false, and_self, not_true, not_false_iff, implies_true, forall_const, true_or, or_true, and_false, false_and, ge_iff_le, gt_iff_lt, cl_dK, cl_pairs, g_s, p_gT, p_gF, Bool.and_true, Bool.true_and, Bool.and_self, cl_ints, cl_bls, cl_oi, cl_ois, cl_row, cl_rows, cl_drow, cl_drows, cl_app, cl_lst, cl_cons, cl_nil, cl_int, cl_bl, cl_non, cl_str, cl_tup, fit, mfit, rt_pairs, sh_pairs, rt_bl, rt_non, rt_str, rt_tup, sh_non, sh_str, sh_tup, rt_ints, rt_oi, rt_ois, rt_row, rt_rows, rt_drow, rt_drows, rt_ref, rt_int, rt_cell, rt_cons, rt_nil, rt_lst, rt_app, p_gF, List.all_cons, List.all_nil, sh_ints, sh_oi, sh_ois, sh_row, sh_rows, sh_drow, sh_drows, sh_ref, sh_int, sh_bl, sh_cell, sh_cons, sh_nil, sh_lst, Nat.zero_add, Nat.add_zero, $xs,*])
local macro_rules | `(tactic| simp! [$xs,*]) => `(tactic| simp only [o_dix, o_din, o_dnewK, o_dkeys, o_dlen, o_dget, o_dsetd, p_get1, p_get2, p_dix, p_din, p_dnin, look_K, look_KN, look_R, look_RN, isDc_K, isDc_R, p_dput, o_dset, p_dkeys, p_dkeysR, p_dlen, cellK_k, liveK_k, dct_val, dct_keys, dct_len, p_intB, p_intI, o_lrg3, o_maxX, o_callK, o_rng3, p_rng3, p_lrg3, rgN_neg, ev_00, c_gtL, c_ltL, c_leTs, ev_tints, ev_rows0, ev_0rows, fr_pair, fr_pairs, py_pair, py_pairs, ev_pair, ev_pairs, ev_pairs0, anyPr, p_minR, p_maxR, p_sumR, p_allR, p_anyR, p_sortedR, o_nil, o_cons, o_ret, o_expr, o_set, o_asg, o_ife, o_setIx, o_aug, o_augIx, o_kill, o_pass, o_retN, seqP_nx, seqP_rt, o_var, o_int, o_bl, o_non, o_str, o_cst, o_bin, o_neg, o_cmp, o_chain, o_isN, o_notN, o_and, o_or, o_and1, o_or1, o_and2, o_or2, o_not, o_lst, o_tup, o_ix, o_slice, o_part0, o_part1, o_call, o_bi, o_isi, o_frz, o_isB, o_lrg, p_isB, p_lrg1, p_lrg2, o_rev, o_par, p_revL, p_revS, p_revR, ← List.map_reverse, o_mth0, o_mth, o_evs0, o_evs1, o_slst, o_stup, o_rng, o_enum, o_zip, o_enumT, o_lset, o_srtP, p_enumT, p_lset, p_srtP, p_listT, p_tupL, p_sliceT, p_divmod, p_var, v_0, v_s, p_add, p_addL, p_addT, p_sub, p_mul, p_mulL, p_div, p_mod, p_pow, p_neg, p_alF, p_alT, p_lst, p_tup, p_not, p_cmp, c_eq, c_ne, c_lt, c_gt, c_le, c_ge, c_in, c_nin, anyI, ev_ints0, ev_row0, ev_0ints, ev_ois0, p_isN, p_notN, p_ix, p_ixT, p_ixS, p_ixR, at_m, p_len, p_lenT, p_lenS, p_lenR, p_list, p_listS, p_listR, p_slice, p_allM, p_anyM, p_sumM, p_all, p_any, p_sum, p_max2, p_min2, p_remove, p_sorted, ints_snoc, ints_map, p_index, isl_l, py_drow, py_drows, ev_drow, ev_drows, fr_drow, fr_drows, p_sliceS, p_sliceR, p_src, p_srcS, p_srcT, p_srcR, src_l, src_f, p_rng1, p_rng2, p_enum, p_zip, p_app, p_pop, p_clear, p_rev, p_ext, p_ins, p_popAt, p_set, p_isi, p_frz, a_add, a_sub, a_mul, ixL, ixLR, cell_l, live_l, isl, py_int, py_bl, py_non, py_str, py_oi, py_lst, py_tup, py_scr, py_ints, py_bls, py_ois, py_row, py_rows, py_ref, ev_int, ev_bl, ev_str, ev_oi, ev_oI, ev_Io, ev_oN, ev_No, ev_ints, ev_row, ev_ois, ev_rows, non_oi, cut_map, ← List.map_take, ← List.map_drop, List.getElem?_cons_zero, List.getElem?_cons_succ, List.set_cons_zero, List.set_cons_succ, List.foldl_cons, List.foldl_nil, List.map_cons, List.map_nil, List.length_cons, List.length_nil, List.replicate, List.cons_append, List.nil_append, exists_eq_left, exists_eq_left', D.bl.injEq, D.int.injEq, D.tup.injEq, decide_eq_true_eq, decide_eq_false_iff_not, true_and, and_true, true_implies, List.length_map, fr_ref, fr_str, fr_ints, fr_ois, fr_rows, fr_int, fr_lst, fr_row, fr_oi, fr_bl, fr_non, fr_cons, fr_nil, fr_tup, Fl.rt.injEq, Fl.nx.injEq, ex_neg, ex_neg', Bool.not_eq_true', Bool.not_eq_false', Bool.not_not, wipeE, omap_cons, omap_nil, at_0, at_1, at_2, oi_some, oi_none, oP_some, oP_none, Option.some.injEq, end_get, end_set, beq_self_eq_true, bne_self_eq_false, tn, tn0, tn1, fitL, mL, mR, nc, nc0, nc1, c_ltT, c_gtT, c_leT, ev_tup, ev_listc, ev_cons, ev_nil, ev_list0, ev_0list, c_inT, c_ninT, LIM, Int.zero_add, gc_id, Nat.le_refl, Option.map_some, Option.bind_some, isi_s, ty_int, ty_bl, ty_non, ty_lst, ty_tup, ty_str, ty_ref, ty_cl, ty_oi, isTy, Int.reduceLE, Int.reduceLT, Int.reducePow, Int.reduceAdd, Int.reduceSub, Int.reduceMul, Int.reduceNeg, Int.reduceEq, Int.reduceGT, Int.reduceGE, Int.reduceNe, Nat.reduceAdd, Nat.reduceSub, Nat.reduceLT, Nat.reduceLeDiff, Nat.reduceMul, Nat.reducePow, Nat.reduceBEq, Nat.reduceEqDiff, Int.reduceToNat, Bool.not_eq_true, Bool.not_true, Bool.not_false, Bool.not_eq_false, Bool.not_eq_eq_eq_not, reduceCtorEq, if_true, if_false, false_implies, Bool.false_eq_true, Bool.true_eq_false, and_self, not_true, not_false_iff, implies_true, forall_const, true_or, or_true, and_false, false_and, ge_iff_le, gt_iff_lt, $xs,*])
local macro_rules | `(tactic| simp?! [$xs,*]) => `(tactic| simp only [le_dK, omap_cons, omap_nil, List.cons_append, List.nil_append, le_pair, le_pairs, la_nil, la_t, la_f, Option.bind_some, Option.map_some, List.append_nil, List.replicate, le_int, le_bl, le_non, le_str, le_scr, le_oi, le_lst, le_tup, le_ints, le_bls, le_ois, le_row, le_rows, le_drow, le_drows, le_ref, cl_dK, cl_pairs, g_s, p_gT, p_gF, Bool.and_true, Bool.true_and, Bool.and_self, cl_ints, cl_bls, cl_oi, cl_ois, cl_row, cl_rows, cl_drow, cl_drows, cl_app, cl_lst, cl_cons, cl_nil, cl_int, cl_bl, cl_non, cl_str, cl_tup, $xs,*])
local macro_rules | `(tactic| simp_all! [$xs,*]) => `(tactic| simp only [o_dix, o_din, o_dnewK, o_dkeys, o_dlen, o_dget, o_dsetd, p_get1, p_get2, p_dix, p_din, p_dnin, look_K, look_KN, look_R, look_RN, isDc_K, isDc_R, p_dput, o_dset, p_dkeys, p_dkeysR, p_dlen, cellK_k, liveK_k, dct_val, dct_keys, dct_len, p_intB, p_intI, o_lrg3, o_maxX, o_callK, o_rng3, p_rng3, p_lrg3, rgN_neg, ev_00, c_gtL, c_ltL, c_leTs, ev_tints, ev_rows0, ev_0rows, fr_pair, fr_pairs, py_pair, py_pairs, ev_pair, ev_pairs, ev_pairs0, anyPr, p_minR, p_maxR, p_sumR, p_allR, p_anyR, p_sortedR, o_nil, o_ret, o_expr, o_set, o_asg, o_ife, o_setIx, o_aug, o_augIx, o_kill, o_pass, o_retN, seqP_nx, seqP_rt, o_var, o_int, o_bl, o_non, o_str, o_cst, o_bin, o_neg, o_cmp, o_chain, o_isN, o_notN, o_and, o_or, o_and1, o_or1, o_and2, o_or2, o_not, o_lst, o_tup, o_ix, o_slice, o_part0, o_part1, o_call, o_bi, o_isi, o_frz, o_isB, o_lrg, p_isB, p_lrg1, p_lrg2, o_rev, o_par, p_revL, p_revS, p_revR, ← List.map_reverse, o_mth0, o_mth, o_evs0, o_evs1, o_slst, o_stup, o_rng, o_enum, o_zip, o_enumT, o_lset, o_srtP, p_enumT, p_lset, p_srtP, p_listT, p_tupL, p_sliceT, p_divmod, p_var, v_0, v_s, p_add, p_addL, p_addT, p_sub, p_mul, p_mulL, p_div, p_mod, p_pow, p_neg, p_alF, p_alT, p_lst, p_tup, p_not, p_cmp, c_eq, c_ne, c_lt, c_gt, c_le, c_ge, c_in, c_nin, anyI, ev_ints0, ev_row0, ev_0ints, ev_ois0, p_isN, p_notN, p_ix, p_ixT, p_ixS, p_ixR, at_m, p_len, p_lenT, p_lenS, p_lenR, p_list, p_listS, p_listR, p_slice, p_allM, p_anyM, p_sumM, p_all, p_any, p_sum, p_max2, p_min2, p_remove, p_sorted, ints_snoc, ints_map, p_index, isl_l, py_drow, py_drows, ev_drow, ev_drows, fr_drow, fr_drows, p_sliceS, p_sliceR, p_src, p_srcS, p_srcT, p_srcR, src_l, src_f, p_rng1, p_rng2, p_enum, p_zip, p_app, p_pop, p_clear, p_rev, p_ext, p_ins, p_popAt, p_set, p_isi, p_frz, a_add, a_sub, a_mul, ixL, ixLR, cell_l, live_l, isl, py_int, py_bl, py_non, py_str, py_oi, py_lst, py_tup, py_scr, py_ints, py_bls, py_ois, py_row, py_rows, py_ref, ev_int, ev_bl, ev_str, ev_oi, ev_oI, ev_Io, ev_oN, ev_No, ev_ints, ev_row, ev_ois, ev_rows, non_oi, cut_map, ← List.map_take, ← List.map_drop, List.getElem?_cons_zero, List.getElem?_cons_succ, List.set_cons_zero, List.set_cons_succ, List.foldl_cons, List.foldl_nil, List.map_cons, List.map_nil, List.length_cons, List.length_nil, List.replicate, List.cons_append, List.nil_append, exists_eq_left, exists_eq_left', D.bl.injEq, D.int.injEq, D.tup.injEq, decide_eq_true_eq, decide_eq_false_iff_not, true_and, and_true, true_implies, List.length_map, fr_ref, fr_str, fr_ints, fr_ois, fr_rows, fr_int, fr_lst, fr_row, fr_oi, fr_bl, fr_non, fr_cons, fr_nil, fr_tup, Fl.rt.injEq, Fl.nx.injEq, ex_neg, ex_neg', Bool.not_eq_true', Bool.not_eq_false', Bool.not_not, wipeE, omap_cons, omap_nil, at_0, at_1, at_2, oi_some, oi_none, oP_some, oP_none, Option.some.injEq, end_get, end_set, beq_self_eq_true, bne_self_eq_false, tn, tn0, tn1, fitL, mL, mR, nc, nc0, nc1, c_ltT, c_gtT, c_leT, ev_tup, ev_listc, ev_cons, ev_nil, ev_list0, ev_0list, c_inT, c_ninT, LIM, Int.zero_add, gc_id, Nat.le_refl, Option.map_some, Option.bind_some, isi_s, ty_int, ty_bl, ty_non, ty_lst, ty_tup, ty_str, ty_ref, ty_cl, ty_oi, isTy, Int.reduceLE, Int.reduceLT, Int.reducePow, Int.reduceAdd, Int.reduceSub, Int.reduceMul, Int.reduceNeg, Int.reduceEq, Int.reduceGT, Int.reduceGE, Int.reduceNe, Nat.reduceAdd, Nat.reduceSub, Nat.reduceLT, Nat.reduceLeDiff, Nat.reduceMul, Nat.reducePow, Nat.reduceBEq, Nat.reduceEqDiff, Int.reduceToNat, Bool.not_eq_true, Bool.not_true, Bool.not_false, Bool.not_eq_false, Bool.not_eq_eq_eq_not, reduceCtorEq, if_true, if_false, false_implies, Bool.false_eq_true, Bool.true_eq_false, and_self, not_true, not_false_iff, implies_true, forall_const, true_or, or_true, and_false, false_and, ge_iff_le, gt_iff_lt, $xs,*])
theorem cell_at (ns : List Int) (k : Int) (hk : 0 ≤ k) : ∃ c, F__law_cell_at.run [.scr ns, .int k] = some (.ok (.int c, [])) ∧ 0 ≤ c ∧ c < 10 ^ 24 := by
  have h : ∃ d, F__law_cell_at.run [.scr ns, .int k] = some (.ok (d, [])) ∧ ∃ c, d = .int c ∧ 0 ≤ c ∧ c < 10 ^ 24 := by
    rw [R__law_cell_at]
    refine run_ex ?_
    simp! [b__law_cell_at, N__law_cell_at, cl_dK, cl_pairs, g_s, p_gT, p_gF, Bool.and_true, Bool.true_and, Bool.and_self, cl_ints, cl_bls, cl_oi, cl_ois, cl_row, cl_rows, cl_drow, cl_drows, cl_app, cl_lst, cl_cons, cl_nil, cl_int, cl_bl, cl_non, cl_str, cl_tup]
    exact fun h => at_ok hk h (by omega)
  obtain ⟨d, h1, c, rfl, h2⟩ := h
  exact ⟨c, h1, h2⟩
theorem hands (xs : List D) : F_hands_of.run [.lst true xs] = some (.ok (.int xs.length, [])) := by
  rw [R_hands_of]
  refine run_ok ?_
  simp! [b_hands_of, N_hands_of, cl_dK, cl_pairs, g_s, p_gT, p_gF, Bool.and_true, Bool.true_and, Bool.and_self, cl_ints, cl_bls, cl_oi, cl_ois, cl_row, cl_rows, cl_drow, cl_drows, cl_app, cl_lst, cl_cons, cl_nil, cl_int, cl_bl, cl_non, cl_str, cl_tup]
theorem things (t : List (List Int)) (h : 0 < t.length) : F_things_of.run [.lst true (t.map (row true))] = some (.ok (.int t[0].length, [])) := by
  rw [R_things_of]
  refine run_ok ?_
  simp! [b_things_of, N_things_of, cl_dK, cl_pairs, g_s, p_gT, p_gF, Bool.and_true, Bool.true_and, Bool.and_self, cl_ints, cl_bls, cl_oi, cl_ois, cl_row, cl_rows, cl_drow, cl_drows, cl_app, cl_lst, cl_cons, cl_nil, cl_int, cl_bl, cl_non, cl_str, cl_tup]
  refine at_ok (by omega) (by omega) ?_
  simp! [row]
def rowAt (t : List (List Int)) (h : Int) : List Int := t.getD h.toNat []
/-- a table of some hands and m things -/
structure TabM (m : Nat) (t : List (List Int)) : Prop where
  pos : 0 < t.length
  few : t.length ≤ 100
  mfew : m ≤ 1000
  rows : ∀ r ∈ t, r.length = m
theorem TabM.at {m : Nat} {t : List (List Int)} (T : TabM m t) {h : Int} (h0 : 0 ≤ h) (h1 : h < t.length) : L2.atI t h = some (rowAt t h) ∧ rowAt t h ∈ t ∧ (rowAt t h).length = m := by
  have hh : h.toNat < t.length := by omega
  have e : rowAt t h = t[h.toNat] := by
    unfold rowAt
    rw [List.getD_eq_getElem?_getD, List.getElem?_eq_getElem hh]
    rfl
  exact ⟨by rw [atI_pos h0 h1, e], by rw [e]; exact List.getElem_mem hh, T.rows _ (by rw [e]; exact List.getElem_mem hh)⟩
theorem TabM.zero {m : Nat} {t : List (List Int)} (T : TabM m t) : (t[0]'T.pos).length = m := T.rows _ (List.getElem_mem _)
theorem check_hand (xs : List D) (h : Int) (h0 : 0 ≤ h) (h1 : h < xs.length) (hx : omap (lend [] 7) xs = some xs) : F_check_hand.run [.lst true xs, .int h] = some (.ok (.non, [])) := by
  have k := fun Q => call_eq (Γ := G_check_hand) (f := 163) (dn := 0) (fz := true) (ds := [.lst true xs]) (es := [.lst true xs]) (μ := []) (Q := Q) rfl (by simp only [B_hands_of, le_dK, omap_cons, omap_nil, List.cons_append, List.nil_append, le_pair, le_pairs, la_nil, la_t, la_f, Option.bind_some, Option.map_some, List.append_nil, List.replicate, le_int, le_bl, le_non, le_str, le_scr, le_oi, le_lst, le_tup, le_ints, le_bls, le_ois, le_row, le_rows, le_drow, le_drows, le_ref, hx] <;> rfl) rfl (hands xs)
  rw [R_check_hand]
  refine run_nx ?_
  simp! [b_check_hand, N_check_hand, cl_dK, cl_pairs, g_s, p_gT, p_gF, Bool.and_true, Bool.true_and, Bool.and_self, cl_ints, cl_bls, cl_oi, cl_ois, cl_row, cl_rows, cl_drow, cl_drows, cl_app, cl_lst, cl_cons, cl_nil, cl_int, cl_bl, cl_non, cl_str, cl_tup, k]
  exact ⟨fun _ => ⟨fun q => absurd h1 q, fun _ => ⟨_, rfl⟩⟩, fun q => absurd h0 q⟩
theorem check_thing (t : List (List Int)) (i : Int) (ht : 0 < t.length) (h0 : 0 ≤ i) (h1 : i < t[0].length) : F_check_thing.run [.lst true (t.map (row true)), .int i] = some (.ok (.non, [])) := by
  have k := fun  μ Q => call_eq (Γ := G_check_thing) (f := 199) (dn := 0) (fz := true) (ds := [.lst true (t.map (row true))]) (μ := μ) (Q := Q) rfl (by simp?! [B_things_of] <;> rfl) rfl (things t ht)
  rw [R_check_thing]
  refine run_nx ?_
  simp! [b_check_thing, N_check_thing, cl_dK, cl_pairs, g_s, p_gT, p_gF, Bool.and_true, Bool.true_and, Bool.and_self, cl_ints, cl_bls, cl_oi, cl_ois, cl_row, cl_rows, cl_drow, cl_drows, cl_app, cl_lst, cl_cons, cl_nil, cl_int, cl_bl, cl_non, cl_str, cl_tup, k]
  exact ⟨fun _ => ⟨fun q => absurd h1 q, fun _ => ⟨_, rfl⟩⟩, fun q => absurd h0 q⟩
theorem check_hand_no (t : List (List Int)) (h : Int) (hn : ¬ (0 ≤ h ∧ h < t.length)) : F_check_hand.run [(D.lst true (List.map (row true) t)), .int h] = some (.error ⟨"NoHand", []⟩) := by
  have k := fun  μ Q => call_eq (Γ := G_check_hand) (f := 163) (dn := 0) (fz := true) (ds := [(D.lst true (List.map (row true) t))]) (μ := μ) (Q := Q) rfl (by simp?! [B_hands_of] <;> rfl) rfl (hands (t.map (row true)))
  rw [R_check_hand]
  refine run_er ?_
  simp only [b_check_hand, N_check_hand, List.map_cons, List.map_nil, List.length_cons, List.length_nil, Nat.reduceAdd, Nat.reduceSub, List.replicate, List.cons_append, List.nil_append]
  refine e_here (e_ife ?_)
  simp? [k]
  exact ⟨fun q => ⟨fun _ => e_here (e_raise _), fun q2 => absurd ⟨q, q2⟩ hn⟩, fun _ => e_here (e_raise _)⟩
theorem check_thing_no {m : Nat} (t : List (List Int)) (T : TabM m t) (h : Int) (hn : ¬ (0 ≤ h ∧ h < m)) : F_check_thing.run [(D.lst true (List.map (row true) t)), .int h] = some (.error ⟨"NoThing", []⟩) := by
  have z := T.zero
  have k := fun  μ Q => call_eq (Γ := G_check_thing) (f := 199) (dn := 0) (fz := true) (ds := [(D.lst true (List.map (row true) t))]) (μ := μ) (Q := Q) rfl (by simp?! [B_things_of] <;> rfl) rfl (things t T.pos)
  rw [R_check_thing]
  refine run_er ?_
  simp only [b_check_thing, N_check_thing, List.map_cons, List.map_nil, List.length_cons, List.length_nil, Nat.reduceAdd, Nat.reduceSub, List.replicate, List.cons_append, List.nil_append]
  refine e_here (e_ife ?_)
  simp? [k, z]
  exact ⟨fun q => ⟨fun _ => e_here (e_raise _), fun q2 => absurd ⟨q, q2⟩ hn⟩, fun _ => e_here (e_raise _)⟩
theorem thing_given {m : Nat} (t : List (List Int)) (d : List (Option Int)) (x h : Int) (T : TabM m t) (hd : d.length = m) (hm : m < 1000) (x0 : 0 ≤ x) (x1 : x < m) (h0 : 0 ≤ h) (h1 : h < t.length) (hn : L2.atI d x = some none) : F_thing_given.run [.lst true (t.map (row true)), .lst true (d.map oi), .int x, .int h] = some (.ok (.ref 0, [.lst .live ((d.set x.toNat (some h)).map oi)])) := by
  have hz := T.zero
  have kt := fun  μ Q => call_eq (Γ := G_thing_given) (f := 145) (dn := 0) (fz := true) (ds := [.lst true (t.map (row true)), .int x]) (μ := μ) (Q := Q) rfl (by simp?! [B_check_thing] <;> rfl) rfl (check_thing t x T.pos x0 (by omega))
  have kh := fun  μ Q => call_eq (Γ := G_thing_given) (f := 143) (dn := 0) (fz := true) (ds := [.lst true (t.map (row true)), .int h]) (μ := μ) (Q := Q) rfl (by simp?! [B_check_hand] <;> rfl) rfl (check_hand (t.map (row true)) h h0 (by rw [List.length_map]; exact h1) (le_rows true t))
  rw [R_thing_given]
  refine run_ok ?_
  simp! [b_thing_given, N_thing_given, cl_dK, cl_pairs, g_s, p_gT, p_gF, Bool.and_true, Bool.true_and, Bool.and_self, cl_ints, cl_bls, cl_oi, cl_ois, cl_row, cl_rows, cl_drow, cl_drows, cl_app, cl_lst, cl_cons, cl_nil, cl_int, cl_bl, cl_non, cl_str, cl_tup, kt, kh]
  refine ⟨none, hn, fun q => by simp at q, fun _ => ?_⟩
  rw [cut_take _ x0, cut_drop _ (by omega)]
  refine ⟨by rw [List.length_take]; omega, by simp; omega, ?_⟩
  refine .inr ⟨rfl, ?_⟩
  have e1 : (x + 1).toNat = x.toNat + 1 := by omega
  rw [List.set_eq_take_append_cons_drop, if_pos (by omega), e1]
  simp [oi]
theorem given_no_thing {m : Nat} (t : List (List Int)) (d : List (Option Int)) (x h : Int) (T : TabM m t) (hn : ¬ (0 ≤ x ∧ x < m)) : F_thing_given.run [(D.lst true (List.map (row true) t)), (D.lst true (List.map oi d)), .int x, .int h] = some (.error ⟨"NoThing", []⟩) := by
  rw [R_thing_given]
  refine run_er ?_
  simp only [b_thing_given, N_thing_given, List.map_cons, List.map_nil, List.length_cons, List.length_nil, Nat.reduceAdd, Nat.reduceSub, List.replicate, List.cons_append, List.nil_append]
  refine e_here (e_expr (e_call ?_))
  simp? []
  exact call_er rfl (by simp?! [B_check_thing] <;> rfl) rfl (check_thing_no t T x hn)
theorem given_no_hand {m : Nat} (t : List (List Int)) (d : List (Option Int)) (x h : Int) (T : TabM m t) (x0 : 0 ≤ x) (x1 : x < m) (hn : ¬ (0 ≤ h ∧ h < t.length)) : F_thing_given.run [(D.lst true (List.map (row true) t)), (D.lst true (List.map oi d)), .int x, .int h] = some (.error ⟨"NoHand", []⟩) := by
  have hz := T.zero
  have kt := fun  μ Q => call_eq (Γ := G_thing_given) (f := 145) (dn := 0) (fz := true) (ds := [(D.lst true (List.map (row true) t)), .int x]) (μ := μ) (Q := Q) rfl (by simp?! [B_check_thing] <;> rfl) rfl (check_thing t x T.pos x0 (by omega))
  rw [R_thing_given]
  refine run_er ?_
  simp only [b_thing_given, N_thing_given, List.map_cons, List.map_nil, List.length_cons, List.length_nil, Nat.reduceAdd, Nat.reduceSub, List.replicate, List.cons_append, List.nil_append]
  refine e_cons ?_
  simp? [kt]
  refine e_here (e_expr (e_call ?_))
  simp? []
  exact call_er rfl (by simp?! [B_check_hand] <;> rfl) rfl (check_hand_no t h hn)
theorem given_held {m : Nat} (t : List (List Int)) (d : List (Option Int)) (x h o : Int) (T : TabM m t) (hd : d.length = m) (x0 : 0 ≤ x) (x1 : x < m) (h0 : 0 ≤ h) (h1 : h < t.length) (ho : L2.atI d x = some (some o)) : F_thing_given.run [(D.lst true (List.map (row true) t)), (D.lst true (List.map oi d)), .int x, .int h] = some (.error ⟨"Held", [("hand", .int o)]⟩) := by
  have hz := T.zero
  have kt := fun  μ Q => call_eq (Γ := G_thing_given) (f := 145) (dn := 0) (fz := true) (ds := [(D.lst true (List.map (row true) t)), .int x]) (μ := μ) (Q := Q) rfl (by simp?! [B_check_thing] <;> rfl) rfl (check_thing t x T.pos x0 (by omega))
  have kh := fun  μ Q => call_eq (Γ := G_thing_given) (f := 143) (dn := 0) (fz := true) (ds := [(D.lst true (List.map (row true) t)), .int h]) (μ := μ) (Q := Q) rfl (by simp?! [B_check_hand] <;> rfl) rfl (check_hand (t.map (row true)) h h0 (by rw [List.length_map]; exact h1) (le_rows true t))
  rw [R_thing_given]
  refine run_er ?_
  simp only [b_thing_given, N_thing_given, List.map_cons, List.map_nil, List.length_cons, List.length_nil, Nat.reduceAdd, Nat.reduceSub, List.replicate, List.cons_append, List.nil_append]
  refine e_cons ?_
  simp? [kt]
  refine e_cons ?_
  simp? [kh]
  refine e_here (e_ife ?_)
  simp? []
  refine ⟨some o, ho, fun _ => e_here (e_raiseF ?_), fun q => (by simp at q)⟩
  simp? []
  exact ⟨some o, ho, rfl, rfl⟩
/-- what a gift comes to -/
def dueV (d : List (Option Int)) (n m x h : Int) : List D := if 0 ≤ x ∧ x < m then (if 0 ≤ h ∧ h < n then (match L2.atI d x with
  | some (some o) => [.int 3, .int o, .bl false, .bl false, .bl true]
  | _ => [.int 0, (D.lst false (List.map oi (d.set x.toNat (some h))))]) else [.int 2, .bl false, .bl false, .bl true, .bl true]) else [.int 1, .bl false, .bl false, .bl true, .bl true]
theorem told {m : Nat} (t : List (List Int)) (d : List (Option Int)) (x h : Int) (T : TabM m t) (hd : d.length = m) (hm : m < 1000) : F__law_told.run [(D.lst true (List.map (row true) t)), (D.lst true (List.map oi d)), .int x, .int h] = some (.ok (.ref 0, [.lst .live (dueV d t.length m x h)])) := by
  rw [R__law_told]
  refine run_ok ?_
  simp only [b__law_told, N__law_told, List.map_cons, List.map_nil, List.length_cons, List.length_nil, Nat.reduceAdd, Nat.reduceSub, List.replicate, List.cons_append, List.nil_append]
  rw [o_cons]
  push_cast []
  rw [o_cons]
  unfold dueV
  by_cases hx : 0 ≤ x ∧ x < m
  · rw [if_pos hx]
    by_cases hh : 0 ≤ h ∧ h < t.length
    · rw [if_pos hh]
      have hxx : x.toNat < d.length := by omega
      have ea : L2.atI d x = some (d[x.toNat]'hxx) := atI_pos hx.1 (by rw [hd]; exact hx.2)
      rw [ea]
      cases ho : (d[x.toNat]'hxx) with
      | none =>
        rw [ho] at ea
        have kg := fun  μ Q => call_eq (Γ := G__law_told) (f := 198) (dn := 0) (fz := true) (ds := [(D.lst true (List.map (row true) t)), (D.lst true (List.map oi d)), .int x, .int h]) (μ := μ) (Q := Q) rfl (by simp?! [B_thing_given] <;> rfl) rfl (thing_given t d x h T hd (by omega) hx.1 hx.2 hh.1 hh.2 ea)
        refine o_tryM (o_tbsetL ?_)
        simp? [kg]
        exact .inr rfl
      | some o =>
        rw [ho] at ea
        refine o_tryMX (x := ⟨"Held", [("hand", .int o)]⟩) (m := []) (e_tbsetL ?_) (show ("Held" : Str) ∈ RS by decide +kernel) ?_
        · simp? []
          exact call_erE rfl (by simp?! [B_thing_given] <;> rfl) rfl (given_held t d x h o T hd hx.1 hx.2 hh.1 hh.2 ea)
        · dsimp only
          refine hnd_take (ds := [.int 3, .int o, .bl false, .bl false, .bl true]) (m1 := []) (show subE "Held" "Held" = true by decide +kernel) ⟨by simp, by decide⟩ rfl (by simp [LIM]) ?_
          simp? []
          exact .inr rfl
    · rw [if_neg hh]
      refine o_tryMX (x := ⟨"NoHand", []⟩) (m := []) (e_tbsetL ?_) (show ("NoHand" : Str) ∈ RS by decide +kernel) ?_
      · simp? []
        exact call_erE rfl (by simp?! [B_thing_given] <;> rfl) rfl (given_no_hand t d x h T hx.1 hx.2 hh)
      · refine hnd_skip (by decide +kernel) (hnd_take (ds := [.int 2, .bl false, .bl false, .bl true, .bl true]) (m1 := []) (by decide +kernel) ⟨by simp, by decide⟩ rfl (by simp [LIM]) ?_)
        simp? []
        exact .inr rfl
  · rw [if_neg hx]
    refine o_tryMX (x := ⟨"NoThing", []⟩) (m := []) (e_tbsetL ?_) (show ("NoThing" : Str) ∈ RS by decide +kernel) ?_
    · simp? []
      exact call_erE rfl (by simp?! [B_thing_given] <;> rfl) rfl (given_no_thing t d x h T hx)
    · refine hnd_skip (by decide +kernel) (hnd_skip (by decide +kernel) (hnd_take (ds := [.int 1, .bl false, .bl false, .bl true, .bl true]) (m1 := []) (by decide +kernel) ⟨by simp, by decide⟩ rfl (by simp [LIM]) ?_))
      simp? []
      exact .inr rfl
theorem far (c m : Int) : ∃ f, F__law_far.run [.int c, .int m] = some (.ok (.int f, [])) := by
  have h : ∃ d, F__law_far.run [.int c, .int m] = some (.ok (d, [])) ∧ ∃ f, d = .int f := by
    rw [R__law_far]
    refine run_ex ?_
    simp only [b__law_far, N__law_far, List.map_cons, List.map_nil, List.length_cons, List.length_nil, Nat.reduceAdd, Nat.reduceSub, List.replicate, List.cons_append, List.nil_append]
    simp? []
    have : c % 2 = 0 ∨ c % 2 = 1 := by omega
    rcases this with q | q <;> rw [q] <;> exact ⟨_, rfl, rfl, _, rfl⟩
  obtain ⟨d, h1, f, rfl⟩ := h
  exact ⟨f, h1⟩
theorem due {m : Nat} (d : List (Option Int)) (n x h : Int) (hd : d.length = m) (hm : m < 1000) : F__law_due.run [(D.lst true (List.map oi d)), .int n, .int x, .int h] = some (.ok (.ref 0, [.lst .live (dueV d n m x h)])) := by
  unfold dueV
  rw [R__law_due]
  refine run_ok ?_
  simp only [b__law_due, N__law_due, List.map_cons, List.map_nil, List.length_cons, List.length_nil, Nat.reduceAdd, Nat.reduceSub, List.replicate, List.cons_append, List.nil_append]
  by_cases hx : 0 ≤ x ∧ x < m
  · rw [if_pos hx]
    have hxx : x.toNat < d.length := by omega
    have ea : L2.atI d x = some (d[x.toNat]'hxx) := atI_pos hx.1 (by rw [hd]; exact hx.2)
    rw [ea]
    by_cases hh : 0 ≤ h ∧ h < n
    · rw [if_pos hh]
      cases ho : (d[x.toNat]'hxx) with
      | none =>
        rw [ho] at ea
        simp? [hd]
        refine ⟨fun _ => ⟨fun q => absurd hx.2 q, fun _ => ⟨fun _ => ⟨fun q => absurd hh.2 q, fun _ => ⟨none, ea, fun q => by simp at q, fun _ => ?_⟩⟩, fun q => absurd hh.1 q⟩⟩, fun q => absurd hx.1 q⟩
        rw [cut_take _ hx.1, cut_drop _ (by omega)]
        refine ⟨by rw [List.length_take]; omega, by simp; omega, .inr ⟨rfl, ?_⟩⟩
        have e1 : (x + 1).toNat = x.toNat + 1 := by omega
        rw [List.set_eq_take_append_cons_drop, if_pos (by omega), e1]
        simp [oi]
      | some o =>
        rw [ho] at ea
        simp? [hd]
        exact ⟨fun _ => ⟨fun q => absurd hx.2 q, fun _ => ⟨fun _ => ⟨fun q => absurd hh.2 q, fun _ => ⟨some o, ea, fun _ => ⟨some o, ea, .inr ⟨rfl, rfl⟩⟩, fun q => by simp at q⟩⟩, fun q => absurd hh.1 q⟩⟩, fun q => absurd hx.1 q⟩
    · rw [if_neg hh]
      simp? [hd]
      exact ⟨fun _ => ⟨fun q => absurd hx.2 q, fun _ => ⟨fun h0 => ⟨fun _ => .inr rfl, fun h1 => absurd ⟨h0, h1⟩ hh⟩, fun _ => .inr rfl⟩⟩, fun q => absurd hx.1 q⟩
  · rw [if_neg hx]
    simp? [hd]
    exact ⟨fun x0 => ⟨fun _ => .inr rfl, fun x1 => absurd ⟨x0, x1⟩ hx⟩, fun _ => .inr rfl⟩
theorem dueV_cases (d : List (Option Int)) (n : Int) (m : Nat) (x h : Int) (ld : d.length = m) : (∃ o, dueV d n m x h = [.int 3, .int o, .bl false, .bl false, .bl true]) ∨ dueV d n m x h = [.int 2, .bl false, .bl false, .bl true, .bl true] ∨ dueV d n m x h = [.int 1, .bl false, .bl false, .bl true, .bl true] ∨ ∃ d2 : List (Option Int), d2.length = m ∧ dueV d n m x h = [.int 0, (D.lst false (List.map oi d2))] := by
  unfold dueV
  split
  · split
    · split
      · exact .inl ⟨_, rfl⟩
      · exact .inr (.inr (.inr ⟨_, by rw [List.length_set]; exact ld, rfl⟩))
    · exact .inr (.inl rfl)
  · exact .inr (.inr (.inl rfl))
theorem run_law : ∀ ns : List Int, ns.length ≤ 63 → F_law.run [.scr ns] = some (.ok (.bl true, [])) := by
  intro ns hl
  obtain ⟨c0, hc0, c00, c01⟩ := cell_at ns 0 (by omega)
  obtain ⟨c1, hc1, c10, c11⟩ := cell_at ns 1 (by omega)
  have k0 := fun  μ Q => call_eq (Γ := G_law) (f := 16) (dn := 0) (fz := true) (ds := [.scr ns, .int 0]) (μ := μ) (Q := Q) rfl (by simp?! [B__law_cell_at] <;> rfl) rfl (hc0)
  have k1 := fun  μ Q => call_eq (Γ := G_law) (f := 16) (dn := 0) (fz := true) (ds := [.scr ns, .int 1]) (μ := μ) (Q := Q) rfl (by simp?! [B__law_cell_at] <;> rfl) rfl (hc1)
  have s0 : Sm c0 80 := sm_of (by omega) (by omega)
  have s1 : Sm c1 80 := sm_of (by omega) (by omega)
  rw [R_law]
  refine run_ok ?_
  simp only [b_law, N_law, List.map_cons, List.map_nil, List.length_cons, List.length_nil, Nat.reduceAdd, Nat.reduceSub, List.replicate, List.cons_append, List.nil_append]
  rw [o_cons]
  push_cast [k0]
  have hn : ∃ n : Nat, 1 + c0 * 16807 % 2147483647 % 6 = (n : Int) ∧ 1 ≤ n ∧ n ≤ 6 := ⟨(1 + c0 * 16807 % 2147483647 % 6).toNat, by omega, by omega, by omega⟩
  obtain ⟨n, en, n0, n1⟩ := hn
  rw [en]
  rw [o_cons]
  push_cast [k1]
  have hm : ∃ m : Nat, c1 * 39373 % 2147483629 % 31 = (m : Int) ∧ m ≤ 30 := ⟨(c1 * 39373 % 2147483629 % 31).toNat, by omega, by omega⟩
  obtain ⟨m, em, m1⟩ := hm
  rw [em]
  obtain ⟨t, et⟩ : ∃ t : List (List Int), t = List.replicate n (List.replicate m 0) := ⟨_, rfl⟩
  have lt : t.length = n := by rw [et]; simp
  have T : TabM m t := ⟨by omega, by omega, by omega, fun r h => by rw [et] at h; rw [List.eq_of_mem_replicate h]; simp⟩
  rw [o_cons]
  push_cast []
  refine o_map (xs := rgi 0 n) (f := D.int) (fun _ => row false (List.replicate m 0)) ?_ ?_ ?_
  · simp? [rgi_len]
    exact ⟨⟨by omega, by omega⟩, by rw [Int.toNat_natCast], by omega⟩
  · intro i hi
    refine ⟨_, rfl, ?_⟩
    simp? [rep_one]
    refine ⟨⟨by omega, by omega⟩, ?_⟩
    rw [Int.toNat_natCast]
    unfold row
    rw [List.map_replicate]
  have eT : (rgi 0 n).map (fun _ => row false (List.replicate m 0)) = t.map (row false) := by
    rw [et, List.map_replicate]
    refine List.eq_replicate_iff.mpr ⟨by rw [List.length_map, rgi_len], fun b hb => ?_⟩
    obtain ⟨_, _, rfl⟩ := List.mem_map.mp hb
    rfl
  rw [eT]
  push_cast []
  rw [o_cons]
  push_cast [rep_one]
  refine ⟨⟨by omega, by omega⟩, ?_⟩
  have eD : List.replicate (m : Int).toNat D.non = (List.replicate m (none : Option Int)).map oi := by
    rw [List.map_replicate, Int.toNat_natCast]
    rfl
  rw [eD]
  rw [o_cons]
  refine o_for (xs := rgi 0 ns.length) (f := D.int) 0 (fun i e m' => ∃ d : List (Option Int), d.length = m ∧ e = [some (.scr ns), some (.int n), some (.int m), some ((D.lst false (List.map (row false) t))), none, some ((D.lst false (List.map oi d))), none, none, none, none, none, none] ∧ m' = []) ?_ ?_ ?_
  · simp? []
    have e63 : (if 63 < (ns.length : Int) then (63 : Int) else (ns.length : Int)) = (ns.length : Int) := if_neg (by omega)
    rw [e63]
    exact ⟨⟨by omega, by omega⟩, by rw [Int.toNat_natCast], _, by simp, rfl⟩
  · rintro i hi e m' ⟨d, ld, rfl, rfl⟩
    rw [rgi_len] at hi
    refine ⟨_, rfl, ?_⟩
    have hix : L2.atI ns (i : Int) = some ns[i] := by rw [atI_pos (by omega) (by omega)]; simp
    generalize ns[i] = z at hix
    obtain ⟨c, ec⟩ : ∃ c : Int, z % 1000000000000000000000000 = c := ⟨_, rfl⟩
    have sc : Sm c 80 := sm_of (by omega) (by omega)
    rw [o_cons]
    push_cast [rgi_get]
    refine ⟨z, hix, ?_⟩
    rw [ec]
    rw [o_cons]
    push_cast []
    obtain ⟨nu, enu⟩ : ∃ nu : Int, c * 48271 % 2147483647 = nu := ⟨_, rfl⟩
    rw [enu]
    refine o_cut (fun e m' => ∃ x : Int, e = [some (.scr ns), some (.int n), some (.int m), some ((D.lst false (List.map (row false) t))), none, some ((D.lst false (List.map oi d))), some (.int i), some (.int c), some (.int nu), some (.int x), none, none] ∧ m' = []) ?_ ?_
    · simp? []
      exact ⟨by split <;> omega, _, rfl⟩
    rintro e m' ⟨x, rfl, rfl⟩
    refine o_cut (fun e m' => ∃ h : Int, e = [some (.scr ns), some (.int n), some (.int m), some ((D.lst false (List.map (row false) t))), some (.int h), some ((D.lst false (List.map oi d))), some (.int i), some (.int c), some (.int nu), some (.int x), none, none] ∧ m' = []) ?_ ?_
    · simp? []
      exact ⟨by omega, _, rfl⟩
    rintro e m' ⟨h, rfl, rfl⟩
    obtain ⟨f1, hf1⟩ := far c m
    obtain ⟨f2, hf2⟩ := far (c / 3) n
    have kf1 := fun  μ Q => call_eq (Γ := G_law) (f := 34) (dn := 0) (fz := true) (ds := [.int c, .int m]) (μ := μ) (Q := Q) rfl (by simp?! [B__law_far] <;> rfl) rfl (hf1)
    have kf2 := fun  μ Q => call_eq (Γ := G_law) (f := 34) (dn := 0) (fz := true) (ds := [.int (c / 3), .int n]) (μ := μ) (Q := Q) rfl (by simp?! [B__law_far] <;> rfl) rfl (hf2)
    refine o_cut (fun e m' => ∃ x : Int, e = [some (.scr ns), some (.int n), some (.int m), some ((D.lst false (List.map (row false) t))), some (.int h), some ((D.lst false (List.map oi d))), some (.int i), some (.int c), some (.int nu), some (.int x), none, none] ∧ m' = []) ?_ ?_
    · simp? [kf1]
      exact ⟨fun _ => ⟨_, rfl⟩, fun _ => ⟨_, rfl⟩⟩
    clear x
    rintro e m' ⟨x, rfl, rfl⟩
    refine o_cut (fun e m' => ∃ h : Int, e = [some (.scr ns), some (.int n), some (.int m), some ((D.lst false (List.map (row false) t))), some (.int h), some ((D.lst false (List.map oi d))), some (.int i), some (.int c), some (.int nu), some (.int x), none, none] ∧ m' = []) ?_ ?_
    · simp? [kf2]
      exact ⟨fun _ => ⟨_, rfl⟩, fun _ => ⟨_, rfl⟩⟩
    clear h
    rintro e m' ⟨h, rfl, rfl⟩
    rw [o_cons]
    push_cast []
    have hto := told t d x h T ld (by omega)
    have hdu := due d n x h ld (by omega)
    rw [lt] at hto
    rcases dueV_cases d n m x h ld with ⟨o, hv⟩ | hv | hv | ⟨d2, l2, hv⟩
    · rw [hv] at hto hdu
      have kt := fun  Q => call_eq (Γ := G_law) (f := 113) (dn := 0) (fz := true) (ds := [(D.lst false (List.map (row false) t)), .ref 0, .int x, .int h]) (μ := [(Cell.lst .live (List.map oi d))]) (Q := Q) rfl (by simp?! [B__law_told, List.getElem?_cons_zero, List.getElem?_cons_succ, le_ints, le_ois, le_rows, le_pairs] <;> rfl) rfl (hto)
      have kd := fun  μ Q => call_eq (Γ := G_law) (f := 28) (dn := 0) (fz := true) (ds := [(D.lst false (List.map oi d)), .int n, .int x, .int h]) (μ := μ) (Q := Q) rfl (by simp?! [B__law_due] <;> rfl) rfl (hdu)
      rw [o_cons]
      push_cast [kt]
      rw [o_cons]
      push_cast [kd]
      simp? []
      refine ⟨d, ld, rfl, ?_⟩
      rw [gc_take (by simp only [be_pairs, be_ints, be_oi, be_ois, be_row, be_rows, be_drow, be_drows, be_app, be_int, be_bl, be_non, be_str, be_scr, be_lst, be_tup, be_ref, be_cons, be_nil, be_cell, be_e0, be_eN, be_eS, List.take_succ_cons, List.take_zero, List.all_cons, List.all_nil, Bool.and_true, Bool.true_and, Bool.and_self, decide_eq_true_eq]) rfl]
      rfl
    · rw [hv] at hto hdu
      have kt := fun  Q => call_eq (Γ := G_law) (f := 113) (dn := 0) (fz := true) (ds := [(D.lst false (List.map (row false) t)), .ref 0, .int x, .int h]) (μ := [(Cell.lst .live (List.map oi d))]) (Q := Q) rfl (by simp?! [B__law_told, List.getElem?_cons_zero, List.getElem?_cons_succ, le_ints, le_ois, le_rows, le_pairs] <;> rfl) rfl (hto)
      have kd := fun  μ Q => call_eq (Γ := G_law) (f := 28) (dn := 0) (fz := true) (ds := [(D.lst false (List.map oi d)), .int n, .int x, .int h]) (μ := μ) (Q := Q) rfl (by simp?! [B__law_due] <;> rfl) rfl (hdu)
      rw [o_cons]
      push_cast [kt]
      rw [o_cons]
      push_cast [kd]
      simp? []
      refine ⟨d, ld, rfl, ?_⟩
      rw [gc_take (by simp only [be_pairs, be_ints, be_oi, be_ois, be_row, be_rows, be_drow, be_drows, be_app, be_int, be_bl, be_non, be_str, be_scr, be_lst, be_tup, be_ref, be_cons, be_nil, be_cell, be_e0, be_eN, be_eS, List.take_succ_cons, List.take_zero, List.all_cons, List.all_nil, Bool.and_true, Bool.true_and, Bool.and_self, decide_eq_true_eq]) rfl]
      rfl
    · rw [hv] at hto hdu
      have kt := fun  Q => call_eq (Γ := G_law) (f := 113) (dn := 0) (fz := true) (ds := [(D.lst false (List.map (row false) t)), .ref 0, .int x, .int h]) (μ := [(Cell.lst .live (List.map oi d))]) (Q := Q) rfl (by simp?! [B__law_told, List.getElem?_cons_zero, List.getElem?_cons_succ, le_ints, le_ois, le_rows, le_pairs] <;> rfl) rfl (hto)
      have kd := fun  μ Q => call_eq (Γ := G_law) (f := 28) (dn := 0) (fz := true) (ds := [(D.lst false (List.map oi d)), .int n, .int x, .int h]) (μ := μ) (Q := Q) rfl (by simp?! [B__law_due] <;> rfl) rfl (hdu)
      rw [o_cons]
      push_cast [kt]
      rw [o_cons]
      push_cast [kd]
      simp? []
      refine ⟨d, ld, rfl, ?_⟩
      rw [gc_take (by simp only [be_pairs, be_ints, be_oi, be_ois, be_row, be_rows, be_drow, be_drows, be_app, be_int, be_bl, be_non, be_str, be_scr, be_lst, be_tup, be_ref, be_cons, be_nil, be_cell, be_e0, be_eN, be_eS, List.take_succ_cons, List.take_zero, List.all_cons, List.all_nil, Bool.and_true, Bool.true_and, Bool.and_self, decide_eq_true_eq]) rfl]
      rfl
    · rw [hv] at hto hdu
      have kt := fun  Q => call_eq (Γ := G_law) (f := 113) (dn := 0) (fz := true) (ds := [(D.lst false (List.map (row false) t)), .ref 0, .int x, .int h]) (μ := [(Cell.lst .live (List.map oi d))]) (Q := Q) rfl (by simp?! [B__law_told, List.getElem?_cons_zero, List.getElem?_cons_succ, le_ints, le_ois, le_rows, le_pairs] <;> rfl) rfl (hto)
      have kd := fun  μ Q => call_eq (Γ := G_law) (f := 28) (dn := 0) (fz := true) (ds := [(D.lst false (List.map oi d)), .int n, .int x, .int h]) (μ := μ) (Q := Q) rfl (by simp?! [B__law_due] <;> rfl) rfl (hdu)
      rw [o_cons]
      push_cast [kt]
      rw [o_cons]
      push_cast [kd]
      simp? []
      refine ⟨d2, l2, rfl, ?_⟩
      rw [gc_take (by simp only [be_pairs, be_ints, be_oi, be_ois, be_row, be_rows, be_drow, be_drows, be_app, be_int, be_bl, be_non, be_str, be_scr, be_lst, be_tup, be_ref, be_cons, be_nil, be_cell, be_e0, be_eN, be_eS, List.take_succ_cons, List.take_zero, List.all_cons, List.all_nil, Bool.and_true, Bool.true_and, Bool.and_self, decide_eq_true_eq]) rfl]
      rfl
  · rintro e m' ⟨d, ld, rfl, rfl⟩
    simp? [o_attrE, o_mkE, p_attrE, exnP_i]
    refine ⟨rfl, .int n, rfl, ?_⟩
    simp? []
    refine ⟨rfl, .int (m + 1), rfl, ?_⟩
    simp? []
end Lk04
set_option Elab.async false
set_option linter.all false
set_option maxRecDepth 100000
set_option autoImplicit false
set_option maxHeartbeats 0
namespace Lk04
open PySem PySem.Spec PyProof.Rows L2 Lv
def bs : List Str := ["isinstance", "len", "list", "max", "min", "range"]
def cs : List (Str × D) := []
def ts : List Str := ["EnvyError", "Held", "NoDealer", "NoHand", "NoName", "NoNumber", "NoOrder", "NoRing", "NoRow", "NoThing", "NoWeights", "NotFair", "NotTwo", "TooMany", "Twice", "ValueError"]
theorem sc_things_of : FnScope N_things_of F_things_of.ps (defScope (top 18)) := ⟨rfl, rfl, rfl, by decide +kernel, rfl, by decide +kernel, by decide +kernel⟩
theorem ck_things_of : S.oks ⟨N_things_of, G_things_of, bs, cs, RS, ts, OB⟩ (defScope (top 18)) (fun _ => true) b_things_of (defBody (top 18)) = true := by decide +kernel
theorem sc_check_thing : FnScope N_check_thing F_check_thing.ps (defScope (top 20)) := ⟨rfl, rfl, rfl, by decide +kernel, rfl, by decide +kernel, by decide +kernel⟩
theorem ck_check_thing : S.oks ⟨N_check_thing, G_check_thing, bs, cs, RS, ts, OB⟩ (defScope (top 20)) (fun _ => true) b_check_thing (defBody (top 20)) = true := by decide +kernel
theorem sc_hands_of : FnScope N_hands_of F_hands_of.ps (defScope (top 17)) := ⟨rfl, rfl, rfl, by decide +kernel, rfl, by decide +kernel, by decide +kernel⟩
theorem ck_hands_of : S.oks ⟨N_hands_of, G_hands_of, bs, cs, RS, ts, OB⟩ (defScope (top 17)) (fun _ => true) b_hands_of (defBody (top 17)) = true := by decide +kernel
theorem sc_check_hand : FnScope N_check_hand F_check_hand.ps (defScope (top 19)) := ⟨rfl, rfl, rfl, by decide +kernel, rfl, by decide +kernel, by decide +kernel⟩
theorem ck_check_hand : S.oks ⟨N_check_hand, G_check_hand, bs, cs, RS, ts, OB⟩ (defScope (top 19)) (fun _ => true) b_check_hand (defBody (top 19)) = true := by decide +kernel
theorem sc_thing_given : FnScope N_thing_given F_thing_given.ps (defScope (top 22)) := ⟨rfl, rfl, rfl, by decide +kernel, rfl, by decide +kernel, by decide +kernel⟩
theorem ck_thing_given : S.oks ⟨N_thing_given, G_thing_given, bs, cs, RS, ts, OB⟩ (defScope (top 22)) (fun _ => true) b_thing_given (defBody (top 22)) = true := by decide +kernel
theorem sc__law_told : FnScope N__law_told F__law_told.ps (defScope (top 26)) := ⟨rfl, rfl, rfl, by decide +kernel, rfl, by decide +kernel, by decide +kernel⟩
theorem ck__law_told : S.oks ⟨N__law_told, G__law_told, bs, cs, RS, ts, OB⟩ (defScope (top 26)) (fun _ => true) b__law_told (defBody (top 26)) = true := by decide +kernel
theorem sc__law_far : FnScope N__law_far F__law_far.ps (defScope (top 28)) := ⟨rfl, rfl, rfl, by decide +kernel, rfl, by decide +kernel, by decide +kernel⟩
theorem ck__law_far : S.oks ⟨N__law_far, G__law_far, bs, cs, RS, ts, OB⟩ (defScope (top 28)) (fun _ => true) b__law_far (defBody (top 28)) = true := by decide +kernel
theorem sc__law_cell_at : FnScope N__law_cell_at F__law_cell_at.ps (defScope (top 24)) := ⟨rfl, rfl, rfl, by decide +kernel, rfl, by decide +kernel, by decide +kernel⟩
theorem ck__law_cell_at : S.oks ⟨N__law_cell_at, G__law_cell_at, bs, cs, RS, ts, OB⟩ (defScope (top 24)) (fun _ => true) b__law_cell_at (defBody (top 24)) = true := by decide +kernel
theorem sc__law_due : FnScope N__law_due F__law_due.ps (defScope (top 27)) := ⟨rfl, rfl, rfl, by decide +kernel, rfl, by decide +kernel, by decide +kernel⟩
theorem ck__law_due : S.oks ⟨N__law_due, G__law_due, bs, cs, RS, ts, OB⟩ (defScope (top 27)) (fun _ => true) b__law_due (defBody (top 27)) = true := by decide +kernel
theorem sc_law : FnScope N_law F_law.ps (defScope (top 29)) := ⟨rfl, rfl, rfl, by decide +kernel, rfl, by decide +kernel, by decide +kernel⟩
theorem ck_law : S.oks ⟨N_law, G_law, bs, cs, RS, ts, OB⟩ (defScope (top 29)) (fun _ => true) b_law (defBody (top 29)) = true := by decide +kernel
theorem scp__law_others : FnScope ["_law_e"] ["_law_e"] (defScope (top 25)) := ⟨rfl, rfl, rfl, by decide +kernel, rfl, by decide +kernel, by decide +kernel⟩
theorem ckp__law_others : predOk ⟨["_law_e"], [], bs, cs, RS, ts, ⟨[], [], [], [], [], []⟩⟩ (defScope (top 25)) [["NoDealer", "NoName", "NoNumber", "NoOrder", "NoRing", "NoRow"], ["NotFair", "NotTwo", "NoWeights", "TooMany", "Twice"]] (defBody (top 25)) = true := by decide +kernel
def Nq0 : List Str := ["self", "hand"]
theorem scq0 : FnScope Nq0 Nq0 (defScope ((inClass (top 4) 0))) := ⟨rfl, rfl, rfl, by decide +kernel, rfl, by decide +kernel, by decide +kernel⟩
theorem ckq0 : xiB "EnvyError" (defScope ((inClass (top 4) 0))) Nq0 ["hand"] (defBody ((inClass (top 4) 0))) = true := by decide +kernel
theorem all_mk {l : PySem.W.OpenLaw} {w : World} {K : PySem.W.Frag} {h : Heap} {mg : Str → Option Value} {fa : Addr} (X : K.In h) (G : h.Ns mainGlobals mg) (hfa : mg "law" = some (.ref fa)) (cc : obsM ckL fnL K = valM fnL)
    : ∃ fd : FuncData, (∀ (s : Shared) (v : Value), BindsTo s fd ⟨[v], []⟩ [("_law_script", v)]) ∧ ∀ base : Heap, K.In base → base.Ns mainGlobals mg → FnOk l.prog w K mg base CX0 12 fa fd ["_law_script"] (spLaw K) := by
  obtain ⟨a0, a1, a2, a3, a4, a5, a6, a7, a8, a9, pa0, z0, z1, z2, z3, z4⟩ := cK0_ok (factM cc 0 (f := cK0))
  obtain ⟨z5, xa_EnvyError, xa_Held, xa_NoDealer, xa_NoHand, xa_NoName, xa_NoNumber, xa_NoOrder, xa_NoRing, xa_NoRow, xa_NoThing, xa_NoWeights, xa_NotFair, xa_NotTwo, xa_TooMany, xa_Twice⟩ := cK1_ok (factM cc 1 (f := cK1))
  obtain ⟨xaV, xk_Held, xb_Held, xt_Held, xg_Held, xh_Held, xd_Held, xc_Held, xm_Held, xq_Held_EnvyError, xq_Held_Held, xq_Held_NoDealer, xq_Held_NoHand, xq_Held_NoName, xq_Held_NoNumber, xq_Held_NoOrder⟩ := cK2_ok (factM cc 2 (f := cK2))
  obtain ⟨xq_Held_NoRing, xq_Held_NoRow, xq_Held_NoThing, xq_Held_NoWeights, xq_Held_NotFair, xq_Held_NotTwo, xq_Held_TooMany, xq_Held_Twice, xq_Held_ValueError, xk_NoHand, xx_NoHand, xb_NoHand, xt_NoHand, xg_NoHand, xh_NoHand, xd_NoHand⟩ := cK3_ok (factM cc 3 (f := cK3))
  obtain ⟨xc_NoHand, xm_NoHand, xq_NoHand_EnvyError, xq_NoHand_Held, xq_NoHand_NoDealer, xq_NoHand_NoHand, xq_NoHand_NoName, xq_NoHand_NoNumber, xq_NoHand_NoOrder, xq_NoHand_NoRing, xq_NoHand_NoRow, xq_NoHand_NoThing, xq_NoHand_NoWeights, xq_NoHand_NotFair, xq_NoHand_NotTwo, xq_NoHand_TooMany⟩ := cK4_ok (factM cc 4 (f := cK4))
  obtain ⟨xq_NoHand_Twice, xq_NoHand_ValueError, xk_NoThing, xx_NoThing, xb_NoThing, xt_NoThing, xg_NoThing, xh_NoThing, xd_NoThing, xc_NoThing, xm_NoThing, xq_NoThing_EnvyError, xq_NoThing_Held, xq_NoThing_NoDealer, xq_NoThing_NoHand, xq_NoThing_NoName⟩ := cK5_ok (factM cc 5 (f := cK5))
  obtain ⟨xq_NoThing_NoNumber, xq_NoThing_NoOrder, xq_NoThing_NoRing, xq_NoThing_NoRow, xq_NoThing_NoThing, xq_NoThing_NoWeights, xq_NoThing_NotFair, xq_NoThing_NotTwo, xq_NoThing_TooMany, xq_NoThing_Twice, xq_NoThing_ValueError, xb_EnvyError, xt_EnvyError, xd_EnvyError, xb_NoDealer, xt_NoDealer⟩ := cK6_ok (factM cc 6 (f := cK6))
  obtain ⟨xd_NoDealer, xb_NoName, xt_NoName, xd_NoName, xb_NoNumber, xt_NoNumber, xd_NoNumber, xb_NoOrder, xt_NoOrder, xd_NoOrder, xb_NoRing, xt_NoRing, xd_NoRing, xb_NoRow, xt_NoRow, xd_NoRow⟩ := cK7_ok (factM cc 7 (f := cK7))
  obtain ⟨xb_NoWeights, xt_NoWeights, xd_NoWeights, xb_NotFair, xt_NotFair, xd_NotFair, xb_NotTwo, xt_NotTwo, xd_NotTwo, xb_TooMany, xt_TooMany, xd_TooMany, xb_Twice, xt_Twice, xd_Twice, qi0⟩ := cK8_ok (factM cc 8 (f := cK8))
  obtain ⟨qt0, qo0, qs0, qn0_hand, qr_EnvyError, qg_EnvyError, qv_EnvyError, xn, xi⟩ := cK9_ok (factM cc 9 (f := cK9))
  obtain ⟨fd0, D0⟩ := defM cc 0 (d := dD0)
  have B0 : Fun K "things_of" "things_of" (top 18) (He.fAd K ("things_of", none)) fd0 := fun_of D0
  have k0 : PySem.W.keepIn K (.ref (He.fAd K ("things_of", none))) = true := D0.kp
  obtain ⟨fd1, D1⟩ := defM cc 1 (d := dD1)
  have B1 : Fun K "check_thing" "check_thing" (top 20) (He.fAd K ("check_thing", none)) fd1 := fun_of D1
  have k1 : PySem.W.keepIn K (.ref (He.fAd K ("check_thing", none))) = true := D1.kp
  obtain ⟨fd2, D2⟩ := defM cc 2 (d := dD2)
  have B2 : Fun K "hands_of" "hands_of" (top 17) (He.fAd K ("hands_of", none)) fd2 := fun_of D2
  have k2 : PySem.W.keepIn K (.ref (He.fAd K ("hands_of", none))) = true := D2.kp
  obtain ⟨fd3, D3⟩ := defM cc 3 (d := dD3)
  have B3 : Fun K "check_hand" "check_hand" (top 19) (He.fAd K ("check_hand", none)) fd3 := fun_of D3
  have k3 : PySem.W.keepIn K (.ref (He.fAd K ("check_hand", none))) = true := D3.kp
  obtain ⟨fd4, D4⟩ := defM cc 4 (d := dD4)
  have B4 : Fun K "thing_given" "thing_given" (top 22) (He.fAd K ("thing_given", none)) fd4 := fun_of D4
  have k4 : PySem.W.keepIn K (.ref (He.fAd K ("thing_given", none))) = true := D4.kp
  obtain ⟨fd5, D5⟩ := defM cc 5 (d := dD5)
  have B5 : Fun K "_law_told" "_law_told" (top 26) (He.fAd K ("_law_told", none)) fd5 := fun_of D5
  have k5 : PySem.W.keepIn K (.ref (He.fAd K ("_law_told", none))) = true := D5.kp
  obtain ⟨fd6, D6⟩ := defM cc 6 (d := dD6)
  have B6 : Fun K "_law_far" "_law_far" (top 28) (He.fAd K ("_law_far", none)) fd6 := fun_of D6
  have k6 : PySem.W.keepIn K (.ref (He.fAd K ("_law_far", none))) = true := D6.kp
  obtain ⟨fd7, D7⟩ := defM cc 7 (d := dD7)
  have B7 : Fun K "_law_cell_at" "_law_cell_at" (top 24) (He.fAd K ("_law_cell_at", none)) fd7 := fun_of D7
  have k7 : PySem.W.keepIn K (.ref (He.fAd K ("_law_cell_at", none))) = true := D7.kp
  obtain ⟨fd8, D8⟩ := defM cc 8 (d := dD8)
  have B8 : Fun K "_law_due" "_law_due" (top 27) (He.fAd K ("_law_due", none)) fd8 := fun_of D8
  have k8 : PySem.W.keepIn K (.ref (He.fAd K ("_law_due", none))) = true := D8.kp
  obtain ⟨fd9, D9⟩ := defM cc 9 (d := dD9)
  have B9 : Fun K "law" "law" (top 29) (He.fAd K ("law", none)) fd9 := fun_of D9
  have k9 : PySem.W.keepIn K (.ref (He.fAd K ("law", none))) = true := D9.kp
  obtain ⟨pfd0, pD0⟩ := defM cc 10 (d := dD10)
  have pB0 : Fun K "_law_others" "_law_others" (top 25) (He.fAd K ("_law_others", none)) pfd0 := fun_of pD0
  have pk0 : PySem.W.keepIn K (.ref (He.fAd K ("_law_others", none))) = true := pD0.kp
  obtain ⟨qfd0, qD0⟩ := defM cc 11 (d := dD11)
  have qB0 : Fun K "__init__" "Held.__init__" ((inClass (top 4) 0)) (He.fAd K ("Held", some "__init__")) qfd0 := fun_of qD0
  have qk0 : PySem.W.keepIn K (.ref (He.fAd K ("Held", some "__init__"))) = true := qD0.kp
  have e := hfa.symm.trans (PySem.W.mg_of X G a9)
  cases e
  have hb : ∀ b ∈ bs, mg b = none := by
    intro b hb
    simp only [bs, List.mem_cons, List.not_mem_nil, or_false] at hb
    rcases hb with rfl | rfl | rfl | rfl | rfl | rfl
    · exact PySem.W.mg_none_of X G z0
    · exact PySem.W.mg_none_of X G z1
    · exact PySem.W.mg_none_of X G z2
    · exact PySem.W.mg_none_of X G z3
    · exact PySem.W.mg_none_of X G z4
    · exact PySem.W.mg_none_of X G z5
  have hc : ∀ x d, cs.lookup x = some d → ∃ u v, mg x = some u ∧ scv d = some v ∧ RelV v u := by
    intro x d hx
    cases hx
  refine ⟨fd9, fun s v => FunD.bindsA (ps := ["_law_script"]) D9 (fun _ _ _ _ _ _ us hl => match us, hl with | [_], _ => rfl) s [v] rfl, fun base _ _ => ?_⟩
  have htc : ∀ c ∈ ts, ∃ cv, CV mg c cv := by
    intro c hc
    simp only [ts, List.mem_cons, List.not_mem_nil, or_false] at hc
    rcases hc with rfl | rfl | rfl | rfl | rfl | rfl | rfl | rfl | rfl | rfl | rfl | rfl | rfl | rfl | rfl | rfl
    · exact ⟨_, ⟨.inl (PySem.W.mg_of X G xa_EnvyError), .ref (He.ga K "EnvyError"), rfl, fun u r => r⟩⟩
    · exact ⟨_, ⟨.inl (PySem.W.mg_of X G xa_Held), .ref (He.ga K "Held"), rfl, fun u r => r⟩⟩
    · exact ⟨_, ⟨.inl (PySem.W.mg_of X G xa_NoDealer), .ref (He.ga K "NoDealer"), rfl, fun u r => r⟩⟩
    · exact ⟨_, ⟨.inl (PySem.W.mg_of X G xa_NoHand), .ref (He.ga K "NoHand"), rfl, fun u r => r⟩⟩
    · exact ⟨_, ⟨.inl (PySem.W.mg_of X G xa_NoName), .ref (He.ga K "NoName"), rfl, fun u r => r⟩⟩
    · exact ⟨_, ⟨.inl (PySem.W.mg_of X G xa_NoNumber), .ref (He.ga K "NoNumber"), rfl, fun u r => r⟩⟩
    · exact ⟨_, ⟨.inl (PySem.W.mg_of X G xa_NoOrder), .ref (He.ga K "NoOrder"), rfl, fun u r => r⟩⟩
    · exact ⟨_, ⟨.inl (PySem.W.mg_of X G xa_NoRing), .ref (He.ga K "NoRing"), rfl, fun u r => r⟩⟩
    · exact ⟨_, ⟨.inl (PySem.W.mg_of X G xa_NoRow), .ref (He.ga K "NoRow"), rfl, fun u r => r⟩⟩
    · exact ⟨_, ⟨.inl (PySem.W.mg_of X G xa_NoThing), .ref (He.ga K "NoThing"), rfl, fun u r => r⟩⟩
    · exact ⟨_, ⟨.inl (PySem.W.mg_of X G xa_NoWeights), .ref (He.ga K "NoWeights"), rfl, fun u r => r⟩⟩
    · exact ⟨_, ⟨.inl (PySem.W.mg_of X G xa_NotFair), .ref (He.ga K "NotFair"), rfl, fun u r => r⟩⟩
    · exact ⟨_, ⟨.inl (PySem.W.mg_of X G xa_NotTwo), .ref (He.ga K "NotTwo"), rfl, fun u r => r⟩⟩
    · exact ⟨_, ⟨.inl (PySem.W.mg_of X G xa_TooMany), .ref (He.ga K "TooMany"), rfl, fun u r => r⟩⟩
    · exact ⟨_, ⟨.inl (PySem.W.mg_of X G xa_Twice), .ref (He.ga K "Twice"), rfl, fun u r => r⟩⟩
    · exact ⟨_, ⟨.inr ⟨PySem.W.mg_none_of X G xaV, by decide +kernel⟩, .ty "ValueError", rfl, fun u r => r⟩⟩
  have hex : ∀ cls ∈ RS, ∃ D, ExR K mg ts cls D := by
    intro c hc
    simp only [RS, List.mem_cons, List.not_mem_nil, or_false] at hc
    rcases hc with rfl | rfl | rfl
    · refine ⟨(He.ga K "Held"), { g := PySem.W.mg_of X G xa_Held, k := xk_Held, b := xb_Held, t := xt_Held, c := { hg := xg_Held, hk := xh_Held, hs := xb_Held, hd := xd_Held, ha := xc_Held, hn := xn, ht := xi, hm := xm_Held }, q := ?_ }⟩
      intro e he
      simp only [ts, List.mem_cons, List.not_mem_nil, or_false] at he
      rcases he with rfl | rfl | rfl | rfl | rfl | rfl | rfl | rfl | rfl | rfl | rfl | rfl | rfl | rfl | rfl | rfl
      · exact ⟨_, ⟨.inl (PySem.W.mg_of X G xa_EnvyError), .ref (He.ga K "EnvyError"), rfl, fun u r => r⟩, by rw [(show subE "Held" "EnvyError" = true by decide +kernel)]; exact kit_ref xd_EnvyError xt_EnvyError xq_Held_EnvyError xq_Held_Held, fun _ => by rw [(show subE "Held" "EnvyError" = true by decide +kernel)]; exact PySem.W.exm_ref xb_EnvyError xd_EnvyError xt_EnvyError xq_Held_EnvyError⟩
      · exact ⟨_, ⟨.inl (PySem.W.mg_of X G xa_Held), .ref (He.ga K "Held"), rfl, fun u r => r⟩, by rw [(show subE "Held" "Held" = true by decide +kernel)]; exact kit_ref xd_Held xt_Held xq_Held_Held xq_Held_Held, fun _ => by rw [(show subE "Held" "Held" = true by decide +kernel)]; exact PySem.W.exm_ref xb_Held xd_Held xt_Held xq_Held_Held⟩
      · exact ⟨_, ⟨.inl (PySem.W.mg_of X G xa_NoDealer), .ref (He.ga K "NoDealer"), rfl, fun u r => r⟩, by rw [(show subE "Held" "NoDealer" = false by decide +kernel)]; exact kit_ref xd_NoDealer xt_NoDealer xq_Held_NoDealer xq_Held_Held, fun _ => by rw [(show subE "Held" "NoDealer" = false by decide +kernel)]; exact PySem.W.exm_ref xb_NoDealer xd_NoDealer xt_NoDealer xq_Held_NoDealer⟩
      · exact ⟨_, ⟨.inl (PySem.W.mg_of X G xa_NoHand), .ref (He.ga K "NoHand"), rfl, fun u r => r⟩, by rw [(show subE "Held" "NoHand" = false by decide +kernel)]; exact kit_ref xd_NoHand xt_NoHand xq_Held_NoHand xq_Held_Held, fun _ => by rw [(show subE "Held" "NoHand" = false by decide +kernel)]; exact PySem.W.exm_ref xb_NoHand xd_NoHand xt_NoHand xq_Held_NoHand⟩
      · exact ⟨_, ⟨.inl (PySem.W.mg_of X G xa_NoName), .ref (He.ga K "NoName"), rfl, fun u r => r⟩, by rw [(show subE "Held" "NoName" = false by decide +kernel)]; exact kit_ref xd_NoName xt_NoName xq_Held_NoName xq_Held_Held, fun _ => by rw [(show subE "Held" "NoName" = false by decide +kernel)]; exact PySem.W.exm_ref xb_NoName xd_NoName xt_NoName xq_Held_NoName⟩
      · exact ⟨_, ⟨.inl (PySem.W.mg_of X G xa_NoNumber), .ref (He.ga K "NoNumber"), rfl, fun u r => r⟩, by rw [(show subE "Held" "NoNumber" = false by decide +kernel)]; exact kit_ref xd_NoNumber xt_NoNumber xq_Held_NoNumber xq_Held_Held, fun _ => by rw [(show subE "Held" "NoNumber" = false by decide +kernel)]; exact PySem.W.exm_ref xb_NoNumber xd_NoNumber xt_NoNumber xq_Held_NoNumber⟩
      · exact ⟨_, ⟨.inl (PySem.W.mg_of X G xa_NoOrder), .ref (He.ga K "NoOrder"), rfl, fun u r => r⟩, by rw [(show subE "Held" "NoOrder" = false by decide +kernel)]; exact kit_ref xd_NoOrder xt_NoOrder xq_Held_NoOrder xq_Held_Held, fun _ => by rw [(show subE "Held" "NoOrder" = false by decide +kernel)]; exact PySem.W.exm_ref xb_NoOrder xd_NoOrder xt_NoOrder xq_Held_NoOrder⟩
      · exact ⟨_, ⟨.inl (PySem.W.mg_of X G xa_NoRing), .ref (He.ga K "NoRing"), rfl, fun u r => r⟩, by rw [(show subE "Held" "NoRing" = false by decide +kernel)]; exact kit_ref xd_NoRing xt_NoRing xq_Held_NoRing xq_Held_Held, fun _ => by rw [(show subE "Held" "NoRing" = false by decide +kernel)]; exact PySem.W.exm_ref xb_NoRing xd_NoRing xt_NoRing xq_Held_NoRing⟩
      · exact ⟨_, ⟨.inl (PySem.W.mg_of X G xa_NoRow), .ref (He.ga K "NoRow"), rfl, fun u r => r⟩, by rw [(show subE "Held" "NoRow" = false by decide +kernel)]; exact kit_ref xd_NoRow xt_NoRow xq_Held_NoRow xq_Held_Held, fun _ => by rw [(show subE "Held" "NoRow" = false by decide +kernel)]; exact PySem.W.exm_ref xb_NoRow xd_NoRow xt_NoRow xq_Held_NoRow⟩
      · exact ⟨_, ⟨.inl (PySem.W.mg_of X G xa_NoThing), .ref (He.ga K "NoThing"), rfl, fun u r => r⟩, by rw [(show subE "Held" "NoThing" = false by decide +kernel)]; exact kit_ref xd_NoThing xt_NoThing xq_Held_NoThing xq_Held_Held, fun _ => by rw [(show subE "Held" "NoThing" = false by decide +kernel)]; exact PySem.W.exm_ref xb_NoThing xd_NoThing xt_NoThing xq_Held_NoThing⟩
      · exact ⟨_, ⟨.inl (PySem.W.mg_of X G xa_NoWeights), .ref (He.ga K "NoWeights"), rfl, fun u r => r⟩, by rw [(show subE "Held" "NoWeights" = false by decide +kernel)]; exact kit_ref xd_NoWeights xt_NoWeights xq_Held_NoWeights xq_Held_Held, fun _ => by rw [(show subE "Held" "NoWeights" = false by decide +kernel)]; exact PySem.W.exm_ref xb_NoWeights xd_NoWeights xt_NoWeights xq_Held_NoWeights⟩
      · exact ⟨_, ⟨.inl (PySem.W.mg_of X G xa_NotFair), .ref (He.ga K "NotFair"), rfl, fun u r => r⟩, by rw [(show subE "Held" "NotFair" = false by decide +kernel)]; exact kit_ref xd_NotFair xt_NotFair xq_Held_NotFair xq_Held_Held, fun _ => by rw [(show subE "Held" "NotFair" = false by decide +kernel)]; exact PySem.W.exm_ref xb_NotFair xd_NotFair xt_NotFair xq_Held_NotFair⟩
      · exact ⟨_, ⟨.inl (PySem.W.mg_of X G xa_NotTwo), .ref (He.ga K "NotTwo"), rfl, fun u r => r⟩, by rw [(show subE "Held" "NotTwo" = false by decide +kernel)]; exact kit_ref xd_NotTwo xt_NotTwo xq_Held_NotTwo xq_Held_Held, fun _ => by rw [(show subE "Held" "NotTwo" = false by decide +kernel)]; exact PySem.W.exm_ref xb_NotTwo xd_NotTwo xt_NotTwo xq_Held_NotTwo⟩
      · exact ⟨_, ⟨.inl (PySem.W.mg_of X G xa_TooMany), .ref (He.ga K "TooMany"), rfl, fun u r => r⟩, by rw [(show subE "Held" "TooMany" = false by decide +kernel)]; exact kit_ref xd_TooMany xt_TooMany xq_Held_TooMany xq_Held_Held, fun _ => by rw [(show subE "Held" "TooMany" = false by decide +kernel)]; exact PySem.W.exm_ref xb_TooMany xd_TooMany xt_TooMany xq_Held_TooMany⟩
      · exact ⟨_, ⟨.inl (PySem.W.mg_of X G xa_Twice), .ref (He.ga K "Twice"), rfl, fun u r => r⟩, by rw [(show subE "Held" "Twice" = false by decide +kernel)]; exact kit_ref xd_Twice xt_Twice xq_Held_Twice xq_Held_Held, fun _ => by rw [(show subE "Held" "Twice" = false by decide +kernel)]; exact PySem.W.exm_ref xb_Twice xd_Twice xt_Twice xq_Held_Twice⟩
      · exact ⟨_, ⟨.inr ⟨PySem.W.mg_none_of X G xaV, by decide +kernel⟩, .ty "ValueError", rfl, fun u r => r⟩, by rw [(show subE "Held" "ValueError" = true by decide +kernel)]; exact kit_val xq_Held_ValueError, fun z => absurd rfl z⟩
    · refine ⟨(He.ga K "NoHand"), { g := PySem.W.mg_of X G xa_NoHand, k := xk_NoHand, b := xb_NoHand, t := xt_NoHand, c := { hg := xg_NoHand, hk := xh_NoHand, hs := xb_NoHand, hd := xd_NoHand, ha := xc_NoHand, hn := xn, ht := xi, hm := xm_NoHand }, q := ?_ }⟩
      intro e he
      simp only [ts, List.mem_cons, List.not_mem_nil, or_false] at he
      rcases he with rfl | rfl | rfl | rfl | rfl | rfl | rfl | rfl | rfl | rfl | rfl | rfl | rfl | rfl | rfl | rfl
      · exact ⟨_, ⟨.inl (PySem.W.mg_of X G xa_EnvyError), .ref (He.ga K "EnvyError"), rfl, fun u r => r⟩, by rw [(show subE "NoHand" "EnvyError" = true by decide +kernel)]; exact kit_ref xd_EnvyError xt_EnvyError xq_NoHand_EnvyError xq_NoHand_NoHand, fun _ => by rw [(show subE "NoHand" "EnvyError" = true by decide +kernel)]; exact PySem.W.exm_ref xb_EnvyError xd_EnvyError xt_EnvyError xq_NoHand_EnvyError⟩
      · exact ⟨_, ⟨.inl (PySem.W.mg_of X G xa_Held), .ref (He.ga K "Held"), rfl, fun u r => r⟩, by rw [(show subE "NoHand" "Held" = false by decide +kernel)]; exact kit_ref xd_Held xt_Held xq_NoHand_Held xq_NoHand_NoHand, fun _ => by rw [(show subE "NoHand" "Held" = false by decide +kernel)]; exact PySem.W.exm_ref xb_Held xd_Held xt_Held xq_NoHand_Held⟩
      · exact ⟨_, ⟨.inl (PySem.W.mg_of X G xa_NoDealer), .ref (He.ga K "NoDealer"), rfl, fun u r => r⟩, by rw [(show subE "NoHand" "NoDealer" = false by decide +kernel)]; exact kit_ref xd_NoDealer xt_NoDealer xq_NoHand_NoDealer xq_NoHand_NoHand, fun _ => by rw [(show subE "NoHand" "NoDealer" = false by decide +kernel)]; exact PySem.W.exm_ref xb_NoDealer xd_NoDealer xt_NoDealer xq_NoHand_NoDealer⟩
      · exact ⟨_, ⟨.inl (PySem.W.mg_of X G xa_NoHand), .ref (He.ga K "NoHand"), rfl, fun u r => r⟩, by rw [(show subE "NoHand" "NoHand" = true by decide +kernel)]; exact kit_ref xd_NoHand xt_NoHand xq_NoHand_NoHand xq_NoHand_NoHand, fun _ => by rw [(show subE "NoHand" "NoHand" = true by decide +kernel)]; exact PySem.W.exm_ref xb_NoHand xd_NoHand xt_NoHand xq_NoHand_NoHand⟩
      · exact ⟨_, ⟨.inl (PySem.W.mg_of X G xa_NoName), .ref (He.ga K "NoName"), rfl, fun u r => r⟩, by rw [(show subE "NoHand" "NoName" = false by decide +kernel)]; exact kit_ref xd_NoName xt_NoName xq_NoHand_NoName xq_NoHand_NoHand, fun _ => by rw [(show subE "NoHand" "NoName" = false by decide +kernel)]; exact PySem.W.exm_ref xb_NoName xd_NoName xt_NoName xq_NoHand_NoName⟩
      · exact ⟨_, ⟨.inl (PySem.W.mg_of X G xa_NoNumber), .ref (He.ga K "NoNumber"), rfl, fun u r => r⟩, by rw [(show subE "NoHand" "NoNumber" = false by decide +kernel)]; exact kit_ref xd_NoNumber xt_NoNumber xq_NoHand_NoNumber xq_NoHand_NoHand, fun _ => by rw [(show subE "NoHand" "NoNumber" = false by decide +kernel)]; exact PySem.W.exm_ref xb_NoNumber xd_NoNumber xt_NoNumber xq_NoHand_NoNumber⟩
      · exact ⟨_, ⟨.inl (PySem.W.mg_of X G xa_NoOrder), .ref (He.ga K "NoOrder"), rfl, fun u r => r⟩, by rw [(show subE "NoHand" "NoOrder" = false by decide +kernel)]; exact kit_ref xd_NoOrder xt_NoOrder xq_NoHand_NoOrder xq_NoHand_NoHand, fun _ => by rw [(show subE "NoHand" "NoOrder" = false by decide +kernel)]; exact PySem.W.exm_ref xb_NoOrder xd_NoOrder xt_NoOrder xq_NoHand_NoOrder⟩
      · exact ⟨_, ⟨.inl (PySem.W.mg_of X G xa_NoRing), .ref (He.ga K "NoRing"), rfl, fun u r => r⟩, by rw [(show subE "NoHand" "NoRing" = false by decide +kernel)]; exact kit_ref xd_NoRing xt_NoRing xq_NoHand_NoRing xq_NoHand_NoHand, fun _ => by rw [(show subE "NoHand" "NoRing" = false by decide +kernel)]; exact PySem.W.exm_ref xb_NoRing xd_NoRing xt_NoRing xq_NoHand_NoRing⟩
      · exact ⟨_, ⟨.inl (PySem.W.mg_of X G xa_NoRow), .ref (He.ga K "NoRow"), rfl, fun u r => r⟩, by rw [(show subE "NoHand" "NoRow" = false by decide +kernel)]; exact kit_ref xd_NoRow xt_NoRow xq_NoHand_NoRow xq_NoHand_NoHand, fun _ => by rw [(show subE "NoHand" "NoRow" = false by decide +kernel)]; exact PySem.W.exm_ref xb_NoRow xd_NoRow xt_NoRow xq_NoHand_NoRow⟩
      · exact ⟨_, ⟨.inl (PySem.W.mg_of X G xa_NoThing), .ref (He.ga K "NoThing"), rfl, fun u r => r⟩, by rw [(show subE "NoHand" "NoThing" = false by decide +kernel)]; exact kit_ref xd_NoThing xt_NoThing xq_NoHand_NoThing xq_NoHand_NoHand, fun _ => by rw [(show subE "NoHand" "NoThing" = false by decide +kernel)]; exact PySem.W.exm_ref xb_NoThing xd_NoThing xt_NoThing xq_NoHand_NoThing⟩
      · exact ⟨_, ⟨.inl (PySem.W.mg_of X G xa_NoWeights), .ref (He.ga K "NoWeights"), rfl, fun u r => r⟩, by rw [(show subE "NoHand" "NoWeights" = false by decide +kernel)]; exact kit_ref xd_NoWeights xt_NoWeights xq_NoHand_NoWeights xq_NoHand_NoHand, fun _ => by rw [(show subE "NoHand" "NoWeights" = false by decide +kernel)]; exact PySem.W.exm_ref xb_NoWeights xd_NoWeights xt_NoWeights xq_NoHand_NoWeights⟩
      · exact ⟨_, ⟨.inl (PySem.W.mg_of X G xa_NotFair), .ref (He.ga K "NotFair"), rfl, fun u r => r⟩, by rw [(show subE "NoHand" "NotFair" = false by decide +kernel)]; exact kit_ref xd_NotFair xt_NotFair xq_NoHand_NotFair xq_NoHand_NoHand, fun _ => by rw [(show subE "NoHand" "NotFair" = false by decide +kernel)]; exact PySem.W.exm_ref xb_NotFair xd_NotFair xt_NotFair xq_NoHand_NotFair⟩
      · exact ⟨_, ⟨.inl (PySem.W.mg_of X G xa_NotTwo), .ref (He.ga K "NotTwo"), rfl, fun u r => r⟩, by rw [(show subE "NoHand" "NotTwo" = false by decide +kernel)]; exact kit_ref xd_NotTwo xt_NotTwo xq_NoHand_NotTwo xq_NoHand_NoHand, fun _ => by rw [(show subE "NoHand" "NotTwo" = false by decide +kernel)]; exact PySem.W.exm_ref xb_NotTwo xd_NotTwo xt_NotTwo xq_NoHand_NotTwo⟩
      · exact ⟨_, ⟨.inl (PySem.W.mg_of X G xa_TooMany), .ref (He.ga K "TooMany"), rfl, fun u r => r⟩, by rw [(show subE "NoHand" "TooMany" = false by decide +kernel)]; exact kit_ref xd_TooMany xt_TooMany xq_NoHand_TooMany xq_NoHand_NoHand, fun _ => by rw [(show subE "NoHand" "TooMany" = false by decide +kernel)]; exact PySem.W.exm_ref xb_TooMany xd_TooMany xt_TooMany xq_NoHand_TooMany⟩
      · exact ⟨_, ⟨.inl (PySem.W.mg_of X G xa_Twice), .ref (He.ga K "Twice"), rfl, fun u r => r⟩, by rw [(show subE "NoHand" "Twice" = false by decide +kernel)]; exact kit_ref xd_Twice xt_Twice xq_NoHand_Twice xq_NoHand_NoHand, fun _ => by rw [(show subE "NoHand" "Twice" = false by decide +kernel)]; exact PySem.W.exm_ref xb_Twice xd_Twice xt_Twice xq_NoHand_Twice⟩
      · exact ⟨_, ⟨.inr ⟨PySem.W.mg_none_of X G xaV, by decide +kernel⟩, .ty "ValueError", rfl, fun u r => r⟩, by rw [(show subE "NoHand" "ValueError" = true by decide +kernel)]; exact kit_val xq_NoHand_ValueError, fun z => absurd rfl z⟩
    · refine ⟨(He.ga K "NoThing"), { g := PySem.W.mg_of X G xa_NoThing, k := xk_NoThing, b := xb_NoThing, t := xt_NoThing, c := { hg := xg_NoThing, hk := xh_NoThing, hs := xb_NoThing, hd := xd_NoThing, ha := xc_NoThing, hn := xn, ht := xi, hm := xm_NoThing }, q := ?_ }⟩
      intro e he
      simp only [ts, List.mem_cons, List.not_mem_nil, or_false] at he
      rcases he with rfl | rfl | rfl | rfl | rfl | rfl | rfl | rfl | rfl | rfl | rfl | rfl | rfl | rfl | rfl | rfl
      · exact ⟨_, ⟨.inl (PySem.W.mg_of X G xa_EnvyError), .ref (He.ga K "EnvyError"), rfl, fun u r => r⟩, by rw [(show subE "NoThing" "EnvyError" = true by decide +kernel)]; exact kit_ref xd_EnvyError xt_EnvyError xq_NoThing_EnvyError xq_NoThing_NoThing, fun _ => by rw [(show subE "NoThing" "EnvyError" = true by decide +kernel)]; exact PySem.W.exm_ref xb_EnvyError xd_EnvyError xt_EnvyError xq_NoThing_EnvyError⟩
      · exact ⟨_, ⟨.inl (PySem.W.mg_of X G xa_Held), .ref (He.ga K "Held"), rfl, fun u r => r⟩, by rw [(show subE "NoThing" "Held" = false by decide +kernel)]; exact kit_ref xd_Held xt_Held xq_NoThing_Held xq_NoThing_NoThing, fun _ => by rw [(show subE "NoThing" "Held" = false by decide +kernel)]; exact PySem.W.exm_ref xb_Held xd_Held xt_Held xq_NoThing_Held⟩
      · exact ⟨_, ⟨.inl (PySem.W.mg_of X G xa_NoDealer), .ref (He.ga K "NoDealer"), rfl, fun u r => r⟩, by rw [(show subE "NoThing" "NoDealer" = false by decide +kernel)]; exact kit_ref xd_NoDealer xt_NoDealer xq_NoThing_NoDealer xq_NoThing_NoThing, fun _ => by rw [(show subE "NoThing" "NoDealer" = false by decide +kernel)]; exact PySem.W.exm_ref xb_NoDealer xd_NoDealer xt_NoDealer xq_NoThing_NoDealer⟩
      · exact ⟨_, ⟨.inl (PySem.W.mg_of X G xa_NoHand), .ref (He.ga K "NoHand"), rfl, fun u r => r⟩, by rw [(show subE "NoThing" "NoHand" = false by decide +kernel)]; exact kit_ref xd_NoHand xt_NoHand xq_NoThing_NoHand xq_NoThing_NoThing, fun _ => by rw [(show subE "NoThing" "NoHand" = false by decide +kernel)]; exact PySem.W.exm_ref xb_NoHand xd_NoHand xt_NoHand xq_NoThing_NoHand⟩
      · exact ⟨_, ⟨.inl (PySem.W.mg_of X G xa_NoName), .ref (He.ga K "NoName"), rfl, fun u r => r⟩, by rw [(show subE "NoThing" "NoName" = false by decide +kernel)]; exact kit_ref xd_NoName xt_NoName xq_NoThing_NoName xq_NoThing_NoThing, fun _ => by rw [(show subE "NoThing" "NoName" = false by decide +kernel)]; exact PySem.W.exm_ref xb_NoName xd_NoName xt_NoName xq_NoThing_NoName⟩
      · exact ⟨_, ⟨.inl (PySem.W.mg_of X G xa_NoNumber), .ref (He.ga K "NoNumber"), rfl, fun u r => r⟩, by rw [(show subE "NoThing" "NoNumber" = false by decide +kernel)]; exact kit_ref xd_NoNumber xt_NoNumber xq_NoThing_NoNumber xq_NoThing_NoThing, fun _ => by rw [(show subE "NoThing" "NoNumber" = false by decide +kernel)]; exact PySem.W.exm_ref xb_NoNumber xd_NoNumber xt_NoNumber xq_NoThing_NoNumber⟩
      · exact ⟨_, ⟨.inl (PySem.W.mg_of X G xa_NoOrder), .ref (He.ga K "NoOrder"), rfl, fun u r => r⟩, by rw [(show subE "NoThing" "NoOrder" = false by decide +kernel)]; exact kit_ref xd_NoOrder xt_NoOrder xq_NoThing_NoOrder xq_NoThing_NoThing, fun _ => by rw [(show subE "NoThing" "NoOrder" = false by decide +kernel)]; exact PySem.W.exm_ref xb_NoOrder xd_NoOrder xt_NoOrder xq_NoThing_NoOrder⟩
      · exact ⟨_, ⟨.inl (PySem.W.mg_of X G xa_NoRing), .ref (He.ga K "NoRing"), rfl, fun u r => r⟩, by rw [(show subE "NoThing" "NoRing" = false by decide +kernel)]; exact kit_ref xd_NoRing xt_NoRing xq_NoThing_NoRing xq_NoThing_NoThing, fun _ => by rw [(show subE "NoThing" "NoRing" = false by decide +kernel)]; exact PySem.W.exm_ref xb_NoRing xd_NoRing xt_NoRing xq_NoThing_NoRing⟩
      · exact ⟨_, ⟨.inl (PySem.W.mg_of X G xa_NoRow), .ref (He.ga K "NoRow"), rfl, fun u r => r⟩, by rw [(show subE "NoThing" "NoRow" = false by decide +kernel)]; exact kit_ref xd_NoRow xt_NoRow xq_NoThing_NoRow xq_NoThing_NoThing, fun _ => by rw [(show subE "NoThing" "NoRow" = false by decide +kernel)]; exact PySem.W.exm_ref xb_NoRow xd_NoRow xt_NoRow xq_NoThing_NoRow⟩
      · exact ⟨_, ⟨.inl (PySem.W.mg_of X G xa_NoThing), .ref (He.ga K "NoThing"), rfl, fun u r => r⟩, by rw [(show subE "NoThing" "NoThing" = true by decide +kernel)]; exact kit_ref xd_NoThing xt_NoThing xq_NoThing_NoThing xq_NoThing_NoThing, fun _ => by rw [(show subE "NoThing" "NoThing" = true by decide +kernel)]; exact PySem.W.exm_ref xb_NoThing xd_NoThing xt_NoThing xq_NoThing_NoThing⟩
      · exact ⟨_, ⟨.inl (PySem.W.mg_of X G xa_NoWeights), .ref (He.ga K "NoWeights"), rfl, fun u r => r⟩, by rw [(show subE "NoThing" "NoWeights" = false by decide +kernel)]; exact kit_ref xd_NoWeights xt_NoWeights xq_NoThing_NoWeights xq_NoThing_NoThing, fun _ => by rw [(show subE "NoThing" "NoWeights" = false by decide +kernel)]; exact PySem.W.exm_ref xb_NoWeights xd_NoWeights xt_NoWeights xq_NoThing_NoWeights⟩
      · exact ⟨_, ⟨.inl (PySem.W.mg_of X G xa_NotFair), .ref (He.ga K "NotFair"), rfl, fun u r => r⟩, by rw [(show subE "NoThing" "NotFair" = false by decide +kernel)]; exact kit_ref xd_NotFair xt_NotFair xq_NoThing_NotFair xq_NoThing_NoThing, fun _ => by rw [(show subE "NoThing" "NotFair" = false by decide +kernel)]; exact PySem.W.exm_ref xb_NotFair xd_NotFair xt_NotFair xq_NoThing_NotFair⟩
      · exact ⟨_, ⟨.inl (PySem.W.mg_of X G xa_NotTwo), .ref (He.ga K "NotTwo"), rfl, fun u r => r⟩, by rw [(show subE "NoThing" "NotTwo" = false by decide +kernel)]; exact kit_ref xd_NotTwo xt_NotTwo xq_NoThing_NotTwo xq_NoThing_NoThing, fun _ => by rw [(show subE "NoThing" "NotTwo" = false by decide +kernel)]; exact PySem.W.exm_ref xb_NotTwo xd_NotTwo xt_NotTwo xq_NoThing_NotTwo⟩
      · exact ⟨_, ⟨.inl (PySem.W.mg_of X G xa_TooMany), .ref (He.ga K "TooMany"), rfl, fun u r => r⟩, by rw [(show subE "NoThing" "TooMany" = false by decide +kernel)]; exact kit_ref xd_TooMany xt_TooMany xq_NoThing_TooMany xq_NoThing_NoThing, fun _ => by rw [(show subE "NoThing" "TooMany" = false by decide +kernel)]; exact PySem.W.exm_ref xb_TooMany xd_TooMany xt_TooMany xq_NoThing_TooMany⟩
      · exact ⟨_, ⟨.inl (PySem.W.mg_of X G xa_Twice), .ref (He.ga K "Twice"), rfl, fun u r => r⟩, by rw [(show subE "NoThing" "Twice" = false by decide +kernel)]; exact kit_ref xd_Twice xt_Twice xq_NoThing_Twice xq_NoThing_NoThing, fun _ => by rw [(show subE "NoThing" "Twice" = false by decide +kernel)]; exact PySem.W.exm_ref xb_Twice xd_Twice xt_Twice xq_NoThing_Twice⟩
      · exact ⟨_, ⟨.inr ⟨PySem.W.mg_none_of X G xaV, by decide +kernel⟩, .ty "ValueError", rfl, fun u r => r⟩, by rw [(show subE "NoThing" "ValueError" = true by decide +kernel)]; exact kit_val xq_NoThing_ValueError, fun z => absurd rfl z⟩
  have hexx : ∀ cls ∈ RS, (∀ p ∈ OB.xc, p.1 ≠ cls) → ExPl K mg cls := by
    intro c hc hn
    simp only [RS, List.mem_cons, List.not_mem_nil, or_false] at hc
    rcases hc with rfl | rfl | rfl
    · exact absurd rfl (hn ("Held", ["hand"]) (by simp [OB]))
    · exact ⟨(He.ga K "NoHand"), PySem.W.mg_of X G xa_NoHand, xx_NoHand⟩
    · exact ⟨(He.ga K "NoThing"), PySem.W.mg_of X G xa_NoThing, xx_NoThing⟩
  have hob : ObOk K mg OB := by
    refine ⟨fun c hc => ?_, fun c f hc => ?_, fun c hc => ?_⟩
    · cases hc
    · cases hc
    · cases hc
  have hpr : ∀ g cs, (g, cs) ∈ OB.prd → PrOk l.prog w K mg base ts g cs := by
    intro g cs hg
    simp only [OB, List.mem_cons, List.not_mem_nil, or_false, Prod.mk.injEq] at hg
    rcases hg with ⟨rfl, rfl⟩
    · exact pr_mk (css := [["NoDealer", "NoName", "NoNumber", "NoOrder", "NoRing", "NoRow"], ["NotFair", "NotTwo", "NoWeights", "TooMany", "Twice"]]) pB0 scp__law_others (PySem.W.mg_of X G pa0) pk0 (pB0.binds (ps := ["_law_e"]) fun _ _ _ _ _ _ us hl => match us, hl with | [_], _ => rfl) hb htc ckp__law_others
  have hxi : ∀ cls fns, (cls, fns) ∈ OB.xc → XiAt l.prog w K mg base (L2.CX l.prog w) 2 cls fns := by
    intro cls fns hg
    simp only [OB, List.mem_cons, List.not_mem_nil, or_false, Prod.mk.injEq] at hg
    rcases hg with ⟨rfl, rfl⟩
    · refine xi_mk (N := Nq0) qB0 scq0 (qB0.binds (ps := Nq0) fun _ _ _ _ _ _ us hl => match us, hl with | [_, _], _ => rfl) (PySem.W.mg_of X G xa_EnvyError) (veB_ok qr_EnvyError qg_EnvyError qv_EnvyError) (oexB_ok qo0 qs0 xb_Held xt_Held xk_Held) ⟨xg_Held, xh_Held, xb_Held, xd_Held⟩ (fun z hz => ?_) (PySem.W.mg_of X G xa_Held) qi0 qt0 rfl (by decide) ckq0
      simp only [List.mem_cons, List.not_mem_nil, or_false] at hz
      rcases hz with rfl
      · exact qn0_hand
  have T0 : TxtOk l.prog w K mg base (L2.CX l.prog w) 2 ⟨[], [], bs, cs, RS, ts, OB⟩ := TxtOk.nil hb hc hex hexx htc hob hpr hxi (by decide)
  have O0 : FnOk l.prog w K mg base (L2.CX l.prog w) 3 (He.fAd K ("things_of", none)) _ F_things_of.ps (F_things_of.sp K mg) := def_ok B0 sc_things_of (T0.names N_things_of) ck_things_of
  have T1 : TxtOk l.prog w K mg base (L2.CX l.prog w) 3 ⟨[], G_check_thing, bs, cs, RS, ts, OB⟩ := T0.cons (F := F_things_of) (i := 199) (PySem.W.mg_of X G a0) k0 (fun j hj => by
    have : j = 0 := Nat.le_zero.mp hj
    subst this
    exact B0.binds (ps := F_things_of.ps) fun _ _ _ _ _ _ us hl => match us, hl with | [_], _ => rfl) O0
  have O1 : FnOk l.prog w K mg base (L2.CX l.prog w) 4 (He.fAd K ("check_thing", none)) _ F_check_thing.ps (F_check_thing.sp K mg) := def_ok B1 sc_check_thing (T1.names N_check_thing) ck_check_thing
  have T2 : TxtOk l.prog w K mg base (L2.CX l.prog w) 4 ⟨[], G_hands_of, bs, cs, RS, ts, OB⟩ := T1.cons (F := F_check_thing) (i := 145) (PySem.W.mg_of X G a1) k1 (fun j hj => by
    have : j = 0 := Nat.le_zero.mp hj
    subst this
    exact B1.binds (ps := F_check_thing.ps) fun _ _ _ _ _ _ us hl => match us, hl with | [_, _], _ => rfl) O1
  have O2 : FnOk l.prog w K mg base (L2.CX l.prog w) 5 (He.fAd K ("hands_of", none)) _ F_hands_of.ps (F_hands_of.sp K mg) := def_ok B2 sc_hands_of (T2.names N_hands_of) ck_hands_of
  have T3 : TxtOk l.prog w K mg base (L2.CX l.prog w) 5 ⟨[], G_check_hand, bs, cs, RS, ts, OB⟩ := T2.cons (F := F_hands_of) (i := 163) (PySem.W.mg_of X G a2) k2 (fun j hj => by
    have : j = 0 := Nat.le_zero.mp hj
    subst this
    exact B2.binds (ps := F_hands_of.ps) fun _ _ _ _ _ _ us hl => match us, hl with | [_], _ => rfl) O2
  have O3 : FnOk l.prog w K mg base (L2.CX l.prog w) 6 (He.fAd K ("check_hand", none)) _ F_check_hand.ps (F_check_hand.sp K mg) := def_ok B3 sc_check_hand (T3.names N_check_hand) ck_check_hand
  have T4 : TxtOk l.prog w K mg base (L2.CX l.prog w) 6 ⟨[], G_thing_given, bs, cs, RS, ts, OB⟩ := T3.cons (F := F_check_hand) (i := 143) (PySem.W.mg_of X G a3) k3 (fun j hj => by
    have : j = 0 := Nat.le_zero.mp hj
    subst this
    exact B3.binds (ps := F_check_hand.ps) fun _ _ _ _ _ _ us hl => match us, hl with | [_, _], _ => rfl) O3
  have O4 : FnOk l.prog w K mg base (L2.CX l.prog w) 7 (He.fAd K ("thing_given", none)) _ F_thing_given.ps (F_thing_given.sp K mg) := def_ok B4 sc_thing_given (T4.names N_thing_given) ck_thing_given
  have T5 : TxtOk l.prog w K mg base (L2.CX l.prog w) 7 ⟨[], G__law_told, bs, cs, RS, ts, OB⟩ := T4.cons (F := F_thing_given) (i := 198) (PySem.W.mg_of X G a4) k4 (fun j hj => by
    have : j = 0 := Nat.le_zero.mp hj
    subst this
    exact B4.binds (ps := F_thing_given.ps) fun _ _ _ _ _ _ us hl => match us, hl with | [_, _, _, _], _ => rfl) O4
  have O5 : FnOk l.prog w K mg base (L2.CX l.prog w) 8 (He.fAd K ("_law_told", none)) _ F__law_told.ps (F__law_told.sp K mg) := def_ok B5 sc__law_told (T5.names N__law_told) ck__law_told
  have T6 : TxtOk l.prog w K mg base (L2.CX l.prog w) 8 ⟨[], G__law_far, bs, cs, RS, ts, OB⟩ := T5.cons (F := F__law_told) (i := 113) (PySem.W.mg_of X G a5) k5 (fun j hj => by
    have : j = 0 := Nat.le_zero.mp hj
    subst this
    exact B5.binds (ps := F__law_told.ps) fun _ _ _ _ _ _ us hl => match us, hl with | [_, _, _, _], _ => rfl) O5
  have O6 : FnOk l.prog w K mg base (L2.CX l.prog w) 9 (He.fAd K ("_law_far", none)) _ F__law_far.ps (F__law_far.sp K mg) := def_ok B6 sc__law_far (T6.names N__law_far) ck__law_far
  have T7 : TxtOk l.prog w K mg base (L2.CX l.prog w) 9 ⟨[], G__law_cell_at, bs, cs, RS, ts, OB⟩ := T6.cons (F := F__law_far) (i := 34) (PySem.W.mg_of X G a6) k6 (fun j hj => by
    have : j = 0 := Nat.le_zero.mp hj
    subst this
    exact B6.binds (ps := F__law_far.ps) fun _ _ _ _ _ _ us hl => match us, hl with | [_, _], _ => rfl) O6
  have O7 : FnOk l.prog w K mg base (L2.CX l.prog w) 10 (He.fAd K ("_law_cell_at", none)) _ F__law_cell_at.ps (F__law_cell_at.sp K mg) := def_ok B7 sc__law_cell_at (T7.names N__law_cell_at) ck__law_cell_at
  have T8 : TxtOk l.prog w K mg base (L2.CX l.prog w) 10 ⟨[], G__law_due, bs, cs, RS, ts, OB⟩ := T7.cons (F := F__law_cell_at) (i := 16) (PySem.W.mg_of X G a7) k7 (fun j hj => by
    have : j = 0 := Nat.le_zero.mp hj
    subst this
    exact B7.binds (ps := F__law_cell_at.ps) fun _ _ _ _ _ _ us hl => match us, hl with | [_, _], _ => rfl) O7
  have O8 : FnOk l.prog w K mg base (L2.CX l.prog w) 11 (He.fAd K ("_law_due", none)) _ F__law_due.ps (F__law_due.sp K mg) := def_ok B8 sc__law_due (T8.names N__law_due) ck__law_due
  have T9 : TxtOk l.prog w K mg base (L2.CX l.prog w) 11 ⟨[], G_law, bs, cs, RS, ts, OB⟩ := T8.cons (F := F__law_due) (i := 28) (PySem.W.mg_of X G a8) k8 (fun j hj => by
    have : j = 0 := Nat.le_zero.mp hj
    subst this
    exact B8.binds (ps := F__law_due.ps) fun _ _ _ _ _ _ us hl => match us, hl with | [_, _, _, _], _ => rfl) O8
  have O9 : FnOk l.prog w K mg base CX0 12 (He.fAd K ("law", none)) _ F_law.ps (spLaw K) := def_law (nme := "law") (bo := []) (dn := 0) (cs := []) B9 sc_law (T9.names N_law) ck_law rfl (fun ns h => (congrFun R_law [.scr ns]).symm.trans (run_law ns h))
  exact O9
end Lk04
theorem PySem.Challenge.cw_leastenvy_k04_things_given_holds : PySem.Challenge.rw_leastenvy_k04_things_given.Holds :=
  Lk04.cw_of fun _ _ _ _ _ X G a c => Lk04.all_mk X G a c
#print axioms PySem.Challenge.cw_leastenvy_k04_things_given_holds
