import PyProof.Rows.All
import Wide.All
import OpenK.AllK
import Wide.FinOn
import HandS.ForMost
import HandS.Flow
import HandS.TupAny
import HandS.TupMul
import HandS.IsInst
import HandS.Exc
import HandS.ExcOwn
import HandS.TryOnly
import HandS.WordsExc
import HandS.Defaults
import HandS.Wide
import HandS.More
import HandS.RaiseMore
import HandS.HeadHook1
import HandS.ExcCtx
import HandS.CallSlots
import HandS.HeadWalk
import HandS.EndBits
import PyProof.ReprRoads
import HandS.Deep
import HandS.Style
import HandS.SortInts
import HandS.Small
import HandS.Zip
import HandS.DictComp
import PyProof.DictUpdate
import PyProof.AssignAttr
import HandS.MakeKw
import HandS.MakeKwOnly
import HandS.SortKw
import HandS.Iter
import KE.SortKeyHeap
import KE.SortUse
import HandS.SetKeys
import HandS.Conv
import KE.KUnpackStar
import HandS.HeadHook2
import PyProof.Rows.IntBool
import PyProof.Rows.RuleIs
import HandS.ExcIs
import HandS.ExcInit
import KE.KExcInit
import HandS.ExcField
import HandS.WideBits
import HandS.SetFor
import HandS.FStr
import PyProof.SumWalkG
import PyProof.ListOps
import HandS.FltList
import HandS.Head2
import HandS.HotCalls
import HandS.ExcValue
import KE.KStateDown
import Lean
import HandS.Base
import HandS.Call
import HandS.Ends
import HandS.Words
import HandS.Head0
import HandS.Head1
import HandS.HeadEnd
import PySem.Challenge.RW_mostclauses_k99_refusals_made
set_option Elab.async false
set_option linter.all false
set_option maxRecDepth 100000
set_option maxHeartbeats 0
namespace MV
open PySem PySem.Spec PyProof.Rows L2

inductive Ec where
  | noMarks | noPlan | noText | noKnot | noFresh | noBound | noGrow | notWider | tooFar | isPut | notOn | isRule | noRule | tooMany | noPut | noDeed | isBroken | hasSome
  deriving DecidableEq
def Ec.n : Ec → String
  | .noMarks => "NoMarks" | .noPlan => "NoPlan" | .noText => "NoText" | .noKnot => "NoKnot" | .noFresh => "NoFresh" | .noBound => "NoBound" | .noGrow => "NoGrow" | .notWider => "NotWider" | .tooFar => "TooFar"
  | .isPut => "IsPut" | .notOn => "NotOn" | .isRule => "IsRule" | .noRule => "NoRule" | .tooMany => "TooMany" | .noPut => "NoPut" | .noDeed => "NoDeed" | .isBroken => "IsBroken" | .hasSome => "HasSome"
def Ec.s (c : Ec) : Str := c.n
inductive W where
  | non | bl (b : Bool) | int (i : Int) | str (x : Str) | ty (n : String) | adr (a : Addr)
  /-- a def of the top, by its name -/
  | fn (x : Str)
  | ref (n : Nat)
  | tup (xs : List W) | lst (xs : List W) | rol (xs : List W)
  /-- a dict that changes no more -/
  | dic (ks : List Key) (ws : List W)
  /-- a caught exception at a, its dict at d -/
  | xcp (a d : Addr) (ns : List Str) (ws : List W)
  /-- a tuple made here, without a dict of its own -/
  | tud (xs : List W)
  /-- a refusal made, not raised: its class, its fields -/
  | exn (c : Ec) (ns : List Str) (ws : List W)
inductive Nd where
  | lst (xs : List W) | dic (kvs : List (Key × W))
inductive Sl where
  | no | val (w : W) | own (n : Nd) | bor (n : Nd)
inductive Cl where
  | follower | merging | says | said | added | keeper | growing | looker | between | desk
  deriving DecidableEq
def Cl.n : Cl → String
  | .follower => "Follower" | .merging => "Merging" | .says => "Says" | .said => "Said" | .added => "Added"
  | .keeper => "Keeper" | .growing => "Growing" | .looker => "Looker" | .between => "Between" | .desk => "Desk"
def Cl.s (c : Cl) : Str := c.n
inductive Fd where
  | told_clauses | spots | held_puts | ahead | trail | reasons | fault | first | named | made | held_marks | top | meant | rows
  | begin | held_plan | tied | most_on | spare | open_outs | known | coming | cap | growers | meanings | sources | size | outs
  | above | below | bounds | held_rules | held_wishes
  deriving DecidableEq
def Fd.n : Fd → String
  | .told_clauses => "told_clauses" | .spots => "spots" | .held_puts => "held_puts" | .ahead => "ahead" | .trail => "trail"
  | .reasons => "reasons" | .fault => "fault" | .first => "first" | .named => "named" | .made => "made" | .held_marks => "held_marks"
  | .top => "top" | .meant => "meant" | .rows => "rows" | .begin => "begin" | .held_plan => "held_plan" | .tied => "tied"
  | .most_on => "most_on" | .spare => "spare" | .open_outs => "open_outs" | .known => "known" | .coming => "coming" | .cap => "cap"
  | .growers => "growers" | .meanings => "meanings" | .sources => "sources" | .size => "size" | .outs => "outs" | .above => "above"
  | .below => "below" | .bounds => "bounds" | .held_rules => "held_rules" | .held_wishes => "held_wishes"
def Fd.s (f : Fd) : Str := f.n
inductive Ob where
  | con (n : Nd) | ins (c : Cl) (fs : List (Fd × W))
structure FS where
  r : List Sl
  s : List Ob
inductive R (α : Type) where
  | ok (a : α) (st : FS)
  | ex (c : Ec) (fs : List (Str × W)) (st : FS)
  | stuck

end MV























namespace MV
open PySem PySem.Spec PyProof.Rows L2
def Fd.all : List Fd := [.told_clauses, .spots, .held_puts, .ahead, .trail, .reasons, .fault, .first, .named, .made, .held_marks, .top, .meant, .rows, .begin, .held_plan, .tied, .most_on, .spare, .open_outs, .known, .coming, .cap, .growers, .meanings, .sources, .size, .outs, .above, .below, .bounds, .held_rules, .held_wishes]
end MV





namespace MV
open PySem PySem.Spec PyProof.Rows L2
instance (a b : Int) : Decidable (RgOk a b) := by unfold RgOk; infer_instance
end MV


namespace MV
open PySem PySem.Spec PyProof.Rows L2
def obsM (ck : List (PySem.W.Frag → Bool)) (fa : List He.Fa) (fn : List He.DefD) (K : PySem.W.Frag) : He.AlD := ((ck.all fun c => c K) && ((fa.all fun f => f.ok K) && fn.all fun d => d.ok K), fn.map fun d => He.fnW K d.at_)
def SaysM (ck : List (PySem.W.Frag → Bool)) (fa : List He.Fa) (fn : List He.DefD) (K : PySem.W.Frag) : Prop := obsM ck fa fn K = He.valD fn
section
variable {ck : List (PySem.W.Frag → Bool)} {fa : List He.Fa} {fn : List He.DefD} {K : PySem.W.Frag}
theorem SaysM.b (c : SaysM ck fa fn K) : (ck.all fun c => c K) = true ∧ He.SaysD fa fn K := by
  have e1 : ((ck.all fun c => c K) && ((fa.all fun f => f.ok K) && fn.all fun d => d.ok K)) = true := congrArg Prod.fst c
  have e2 : fn.map (fun d => He.fnW K d.at_) = (He.valD fn).2 := congrArg Prod.snd c
  obtain ⟨h1, h2⟩ := He.ba e1
  refine ⟨h1, ?_⟩
  show (((fa.all fun f => f.ok K) && fn.all fun d => d.ok K), fn.map fun d => He.fnW K d.at_) = He.valD fn
  rw [h2, e2]
  rfl
end
end MV





namespace MV
open PySem PySem.Spec PyProof.Rows L2 Builtin Builtin.ObjectAttr
abbrev tlK : List Value := [.type "KeyError", .type "LookupError", .type "Exception", .type "BaseException", .type "object"]
end MV



namespace MV
open PySem PySem.Spec PyProof.Rows L2
inductive Eb where
  | value | key | index | lookup | exc
  deriving DecidableEq
def Eb.n : Eb → String
  | .value => "ValueError" | .key => "KeyError" | .index => "IndexError" | .lookup => "LookupError" | .exc => "Exception"
@[simp] def Eb.up : Eb → Eb → Bool
  | .value, .value => true | .value, .exc => true | .key, .key => true | .key, .lookup => true | .key, .exc => true
  | .index, .index => true | .index, .lookup => true | .index, .exc => true | .lookup, .lookup => true | .lookup, .exc => true | .exc, .exc => true | _, _ => false
@[simp] def Ec.b : Ec → Eb
  | .noMarks | .noPlan | .noText | .noKnot | .noFresh | .noBound | .noGrow | .notWider | .tooFar => .value
  | .isPut | .notOn | .isRule | .noRule => .key
  | .tooMany | .noPut | .noDeed => .index
  | .isBroken | .hasSome => .lookup
@[simp] def Ec.fl : Ec → List Str
  | .noKnot => ["number"] | .noFresh => ["lowest"] | .noBound => ["high", "low"] | .notWider => ["cap"] | .tooFar => ["cap"] | .isPut => ["name"] | .notOn => ["mark"] | .isRule => ["word"] | .noRule => ["word"] | .tooMany => ["many"]
  | _ => []
inductive Tn where
  | own (e : Ec) | bi (b : Eb)
@[simp] def xsub (c : Ec) : Tn → Bool
  | .own e => decide (c = e)
  | .bi b => c.b.up b
def Tn.x : Tn → Str
  | .own e => e.s
  | .bi b => b.n
def Tn.u (K : PySem.W.Frag) : Tn → Value
  | .own e => .ref (He.ga K e.s)
  | .bi b => .type b.n
def Tn.v (K : PySem.W.Frag) : Tn → V
  | .own e => .ref (He.ga K e.s)
  | .bi b => .ty b.n
def xtB (K : PySem.W.Frag) (cs : List Ec) (ts : List Tn) : Bool :=
  (cs.all fun c => He.eqO (PySem.W.nsIn K mainGlobals c.s) (some (some (.ref (He.ga K c.s)))) && (xfB K (He.ga K c.s) && ((c.fl.all fun f => decide (PySem.W.findIn K (.ref (He.ga K c.s)) f = some none)) &&
    (decide (PySem.W.findIn K (.ref (He.ga K c.s)) "__class__" = some (some (.builtin "object.__class__"))) && (decide (PySem.W.mroIn K (He.ga K c.s) (.type "object") = some true) &&
      ts.all fun t => decide (PySem.W.kitOne K (.ref (He.ga K c.s)) (t.u K) = some (xsub c t)) && decide (PySem.W.exmOne K (.ref (He.ga K c.s)) (t.u K) = some (xsub c t))))))) &&
  (decide (PySem.W.specialIn K (.builtin "object.__class__") "__get__" = some (some (.builtin "getset_descriptor.__get__"))) && decide (PySem.W.takesIn K (.builtin "object.__class__") = some true))
end MV






namespace MV
open PySem PySem.Spec PyProof.Rows L2
abbrev tlV : List Value := [.type "ValueError", .type "Exception", .type "BaseException", .type "object"]
abbrev tlI : List Value := [.type "IndexError", .type "LookupError", .type "Exception", .type "BaseException", .type "object"]
abbrev tlL : List Value := [.type "LookupError", .type "Exception", .type "BaseException", .type "object"]
def xr0B (c : Ec) (tl : List Value) (nI : String) (K : PySem.W.Frag) : Bool := PySem.W.excIn K (He.ga K c.s) tl nI && (He.eqO (PySem.W.nsIn K mainGlobals c.s) (some (some (.ref (He.ga K c.s)))) && (PySem.W.keepIn K (.ref (He.ga K c.s)) &&
  (decide (PySem.W.subIn K (.ref (He.ga K c.s)) (.type "BaseException") = some true) && decide (PySem.W.typeIn K (.ref (He.ga K c.s)) = some (.type "type")))))
def xobjB (K : PySem.W.Frag) (C : Addr) (tl : List Value) (nI : String) : Bool := match K.lookup C with
  | some ⟨.type "type", _, .cls cd, sl⟩ => (match cd.mro, sl.toList with
    | .ref C1 :: bm, [_, _, _, _, some (.builtin n), _] => C1 == C && (bm == tl && (n == nI && (!cd.hasDel && cd.hasDict)))
    | _, _ => false)
  | _ => false
def clsB (o : Option PySem.W.CFound) (i : String) : Bool := match o with
  | some (.val (.builtin j)) => decide (j = i)
  | _ => false
def xr1B (c : Ec) (B nI iI : String) (tl : List Value) (K : PySem.W.Frag) : Bool := xobjB K (He.ga K c.s) tl nI && (He.eqO (PySem.W.nsIn K mainGlobals c.s) (some (some (.ref (He.ga K c.s)))) && (PySem.W.keepIn K (.ref (He.ga K c.s)) &&
  (decide (PySem.W.subIn K (.ref (He.ga K c.s)) (.type "BaseException") = some true) && (decide (PySem.W.typeIn K (.ref (He.ga K c.s)) = some (.type "type")) && (He.eqO (PySem.W.findIn K (.ref (He.ga K c.s)) "__setattr__") (some (some (.builtin "object.__setattr__"))) &&
  (He.eqO (PySem.W.findIn K (.ref (He.ga K c.s)) "__init__") (some (some (.ref (He.ma K (He.ga K c.s) "__init__")))) && (decide (PySem.W.typeIn K (.ref (He.ma K (He.ga K c.s) "__init__")) = some (.type "function")) &&
  ((c.fl.all fun f => He.eqO (PySem.W.findIn K (.ref (He.ga K c.s)) f) (some none)) && (clsB (PySem.W.findCls K (.type B) (.type "type") "__init__") iI && He.eqO (PySem.W.nsIn K mainGlobals B) (some none))))))))))
end MV

namespace MV
open PySem PySem.Spec PyProof.Rows L2
def addF : List Addr → Nat → List Addr → Nat × List Addr
  | [], m, acc => (m, acc)
  | a :: as, m, acc => match Nat.beq (Nat.land (Nat.shiftRight m a) 1) 0 with
    | true => addF as (Nat.lor m (Nat.shiftLeft 1 a)) (a :: acc)
    | false => addF as m acc
def asF (g : Addr → Option Obj) : Nat → Nat → List Addr → List Addr
  | 0, _, _ => []
  | n + 1, m, fr => match addF (fr.flatMap fun a => match g a with
      | some o => He.refsD o
      | none => []) m [] with
    | (m', nw) => nw ++ asF g n m' nw
def obsMF (n : Nat) (ck : List (PySem.W.Frag → Bool)) (fa : List He.Fa) (fn : List He.DefD) (g : Addr → Option Obj) : He.AlD := obsM ck fa fn (He.frG g (mainGlobals :: PySem.cStatics :: asF g n (Nat.lor (Nat.shiftLeft 1 mainGlobals) (Nat.shiftLeft 1 PySem.cStatics)) [mainGlobals]))
def hookMF (n : Nat) (ck : List (PySem.W.Frag → Bool)) (fa : List He.Fa) (fn : List He.DefD) : PySem.W.Hook where
  α := He.AlD
  obs := fun s => obsMF n ck fa fn s.heap.get?
  val := fun _ => He.valD fn
  says := fun _ h => ∃ K : PySem.W.Frag, K.In h ∧ SaysM ck fa fn K
  of := fun _ _ e => ⟨_, He.frG_in, e⟩
  keeps := fun _ _ _ ⟨K, hK, c⟩ k => ⟨K, PySem.W.Frag.In.keeps hK k, c⟩
theorem obsMF_eq {n : Nat} {ck : List (PySem.W.Frag → Bool)} {fa : List He.Fa} {fn : List He.DefD} {g : Addr → Option Obj} {s : Shared} (h : ∀ a, g a = s.heap.get? a) : obsMF n ck fa fn g = (hookMF n ck fa fn).obs s := by
  have e : g = s.heap.get? := funext h
  subst e
  rfl
def RunP {α : Type} (r : PySem.W.OpenRow) (M : Nat) (w : World) (f : PySem.W.SharedT → α) (v : α) : Prop :=
  ∀ os : OsState, (HandSHeadRun.endF (HandSHeadRun.stepQ (HandSHeadRun.denQ HandSHeadRun.tabQ) r.prog w) M r.prog w os).map f = some v
def RunL (r : PySem.W.OpenRow) (M : Nat) (w : World) : Prop := RunP r M w (fun s => HandSHeadRun.looksF r.prog (PySem.W.boot_heap w.params) s.abs) true
def RunS (r : PySem.W.OpenRow) (q : Program) (M : Nat) (loose : List PySem.Str) (w : World) : Prop := RunP r M w (fun s => HandSHeadRun.seenQ q loose (importedModules r.prog.main.body) (fun s => PySem.W.xlAt q [] s && PySem.W.recOk r.toRowW.records s) s.abs) (PySem.W.openGood q loose)
theorem map3 {S α β γ : Type} {o : Option S} {f : S → α} {g : S → β} {h : S → γ} {a : α} {b : β} {c : γ} (e1 : o.map f = some a) (e2 : o.map g = some b) (e3 : o.map h = some c) : o.map (fun s => (f s, g s, h s)) = some (a, b, c) := by
  cases o with
  | none => cases e1
  | some s =>
    rw [Option.map_some, Option.some.injEq] at e1 e2 e3 ⊢
    rw [e1, e2, e3]
theorem run_of3 {r : PySem.W.OpenRow} {q : Program} {H : PySem.W.Hook} {ob : PySem.W.SharedT → H.α} {M : Nat} {loose : List PySem.Str} {w : World} (e1 : RunL r M w) (e2 : RunS r q M loose w) (e3 : RunP r M w ob (H.val w)) : HandSHeadRun.RunEq r q H ob M loose w := fun os => map3 (e1 os) (e2 os) (e3 os)
end MV

namespace HD
open PySem PySem.Spec PyProof.Rows L2
def top (i : Nat) : Stmt := PySem.Challenge.pw_mostclauses_k99_refusals_made.main.body.getD i (.Pass ⟨0, 0, 0, 0⟩)
def mem (i j : Nat) : Stmt := inClass (top i) j
def d0 : He.DefD := ⟨("_law_begun", none), "_law_begun", "_law_begun", defArgs (top 20), defBody (top 20), defScope (top 20), [], []⟩
def d1 : He.DefD := ⟨("_law_draw", none), "_law_draw", "_law_draw", defArgs (top 21), defBody (top 21), defScope (top 21), [], []⟩
def d2 : He.DefD := ⟨("_law_pick", none), "_law_pick", "_law_pick", defArgs (top 22), defBody (top 22), defScope (top 22), [], []⟩
def d3 : He.DefD := ⟨("_law_under", none), "_law_under", "_law_under", defArgs (top 23), defBody (top 23), defScope (top 23), [], []⟩
def d4 : He.DefD := ⟨("law", none), "law", "law", defArgs (top 24), defBody (top 24), defScope (top 24), [], []⟩
def d5 : He.DefD := ⟨("IsPut", some "__init__"), "__init__", "IsPut.__init__", defArgs (mem 10 0), defBody (mem 10 0), defScope (mem 10 0), [], []⟩
def d6 : He.DefD := ⟨("IsRule", some "__init__"), "__init__", "IsRule.__init__", defArgs (mem 12 0), defBody (mem 12 0), defScope (mem 12 0), [], []⟩
def d7 : He.DefD := ⟨("NoBound", some "__init__"), "__init__", "NoBound.__init__", defArgs (mem 6 0), defBody (mem 6 0), defScope (mem 6 0), [], []⟩
def d8 : He.DefD := ⟨("NoFresh", some "__init__"), "__init__", "NoFresh.__init__", defArgs (mem 5 0), defBody (mem 5 0), defScope (mem 5 0), [], []⟩
def d9 : He.DefD := ⟨("NoKnot", some "__init__"), "__init__", "NoKnot.__init__", defArgs (mem 4 0), defBody (mem 4 0), defScope (mem 4 0), [], []⟩
def d10 : He.DefD := ⟨("NoRule", some "__init__"), "__init__", "NoRule.__init__", defArgs (mem 13 0), defBody (mem 13 0), defScope (mem 13 0), [], []⟩
def d11 : He.DefD := ⟨("NotOn", some "__init__"), "__init__", "NotOn.__init__", defArgs (mem 11 0), defBody (mem 11 0), defScope (mem 11 0), [], []⟩
def d12 : He.DefD := ⟨("NotWider", some "__init__"), "__init__", "NotWider.__init__", defArgs (mem 8 0), defBody (mem 8 0), defScope (mem 8 0), [], []⟩
def d13 : He.DefD := ⟨("TooFar", some "__init__"), "__init__", "TooFar.__init__", defArgs (mem 9 0), defBody (mem 9 0), defScope (mem 9 0), [], []⟩
def d14 : He.DefD := ⟨("TooMany", some "__init__"), "__init__", "TooMany.__init__", defArgs (mem 14 0), defBody (mem 14 0), defScope (mem 14 0), [], []⟩
def fn : List He.DefD := [d0, d1, d2, d3, d4, d5, d6, d7, d8, d9, d10, d11, d12, d13, d14]
def fa : List He.Fa := [.glo "_law_begun", .glo "_law_draw", .glo "_law_pick", .glo "_law_under", .glo "law", .free "len", .free "range", .free "isinstance", .free "LookupError", .free "IndexError", .free "KeyError", .free "ValueError", .free "repr"]
def xtc : PySem.W.Frag → Bool := fun K => MV.xtB K [.hasSome, .isBroken, .isPut, .isRule, .noBound, .noDeed, .noFresh, .noGrow, .noKnot, .noMarks, .noPlan, .noPut, .noRule, .noText, .notOn, .notWider, .tooFar, .tooMany] [.own .hasSome, .bi .index, .own .isBroken, .own .isPut, .own .isRule, .bi .key, .bi .lookup, .own .noBound, .own .noDeed, .own .noFresh, .own .noGrow, .own .noKnot, .own .noMarks, .own .noPlan, .own .noPut, .own .noRule, .own .noText, .own .notOn, .own .notWider, .own .tooFar, .own .tooMany, .bi .value]
def xr_HasSome : PySem.W.Frag → Bool := MV.xr0B .hasSome MV.tlL "LookupError.__new__"
def xr_IsBroken : PySem.W.Frag → Bool := MV.xr0B .isBroken MV.tlL "LookupError.__new__"
def xr_IsPut : PySem.W.Frag → Bool := MV.xr1B .isPut "KeyError" "LookupError.__new__" "KeyError.__init__" MV.tlK
def xr_IsRule : PySem.W.Frag → Bool := MV.xr1B .isRule "KeyError" "LookupError.__new__" "KeyError.__init__" MV.tlK
def xr_NoBound : PySem.W.Frag → Bool := MV.xr1B .noBound "ValueError" "ValueError.__new__" "ValueError.__init__" MV.tlV
def xr_NoDeed : PySem.W.Frag → Bool := MV.xr0B .noDeed MV.tlI "IndexError.__new__"
def xr_NoFresh : PySem.W.Frag → Bool := MV.xr1B .noFresh "ValueError" "ValueError.__new__" "ValueError.__init__" MV.tlV
def xr_NoGrow : PySem.W.Frag → Bool := MV.xr0B .noGrow MV.tlV "ValueError.__new__"
def xr_NoKnot : PySem.W.Frag → Bool := MV.xr1B .noKnot "ValueError" "ValueError.__new__" "ValueError.__init__" MV.tlV
def xr_NoMarks : PySem.W.Frag → Bool := MV.xr0B .noMarks MV.tlV "ValueError.__new__"
def xr_NoPlan : PySem.W.Frag → Bool := MV.xr0B .noPlan MV.tlV "ValueError.__new__"
def xr_NoPut : PySem.W.Frag → Bool := MV.xr0B .noPut MV.tlI "IndexError.__new__"
def xr_NoRule : PySem.W.Frag → Bool := MV.xr1B .noRule "KeyError" "LookupError.__new__" "KeyError.__init__" MV.tlK
def xr_NoText : PySem.W.Frag → Bool := MV.xr0B .noText MV.tlV "ValueError.__new__"
def xr_NotOn : PySem.W.Frag → Bool := MV.xr1B .notOn "KeyError" "LookupError.__new__" "KeyError.__init__" MV.tlK
def xr_NotWider : PySem.W.Frag → Bool := MV.xr1B .notWider "ValueError" "ValueError.__new__" "ValueError.__init__" MV.tlV
def xr_TooFar : PySem.W.Frag → Bool := MV.xr1B .tooFar "ValueError" "ValueError.__new__" "ValueError.__init__" MV.tlV
def xr_TooMany : PySem.W.Frag → Bool := MV.xr1B .tooMany "IndexError" "IndexError.__new__" "IndexError.__init__" MV.tlI
def ck : List (PySem.W.Frag → Bool) := [xtc, xr_HasSome, xr_IsBroken, xr_IsPut, xr_IsRule, xr_NoBound, xr_NoDeed, xr_NoFresh, xr_NoGrow, xr_NoKnot, xr_NoMarks, xr_NoPlan, xr_NoPut, xr_NoRule, xr_NoText, xr_NotOn, xr_NotWider, xr_TooFar, xr_TooMany]
abbrev R : PySem.W.OpenRow := PySem.W.OpenLaw.row PySem.Challenge.rw_mostclauses_k99_refusals_made
abbrev hk : PySem.W.Hook := MV.hookMF 6 ck fa fn
def ob (s : PySem.W.SharedT) : He.AlD := MV.obsMF 6 ck fa fn (HandSHeadRun.getT s)
theorem ob_eq (s : PySem.W.SharedT) : ob s = hk.obs s.abs := MV.obsMF_eq (HandSHeadRun.getT_eq s)
def nm0 : List PySem.Str := ["NoMarks", "NoPlan", "NoText", "NoKnot", "NoFresh", "NoBound", "NoGrow", "NotWider", "TooFar", "IsPut", "NotOn", "IsRule", "NoRule", "TooMany", "NoPut", "NoDeed", "IsBroken", "HasSome", "_law_begun", "_law_draw", "_law_pick", "_law_under"]
def names : List PySem.Str := nm0
theorem run_rl (w : World) : MV.RunL R 9000 (w) := by
  intro os
  kernel_rfl
theorem run_rs (w : World) : MV.RunS R (PySem.W.view R.prog [24]) 9000 names (w) := by
  intro os
  kernel_rfl
theorem run_ro (w : World) : MV.RunP R 9000 (w) ob (hk.val (w)) := by
  intro os
  kernel_rfl
theorem run (w : World) : HandSHeadRun.RunEq R (PySem.W.view R.prog [24]) hk ob 9000 names w := MV.run_of3 (run_rl w) (run_rs w) (run_ro w)
end HD
namespace MV
open PySem PySem.Spec PyProof.Rows L2

inductive T where
  | w (w : W) | new (n : Nd) | loc (i : Nat)
@[simp] def FS.setr (st : FS) (i : Nat) (x : Sl) : FS := ⟨st.r.set i x, st.s⟩
def R.bind {α β : Type} (r : R α) (f : α → FS → R β) : R β := match r with
  | .ok a st => f a st
  | .ex c fs st => .ex c fs st
  | .stuck => .stuck
@[simp] theorem R.bind_ok {α β : Type} (a : α) (st : FS) (f : α → FS → R β) : (R.ok a st).bind f = f a st := rfl
def ExN (cls : Value) (d : Option Addr) (a : Addr) : HO := .ext fun h => ∃ oe : Obj, h.get? a = some oe ∧ L2N.Zn cls d oe ∧ ∃ vs, oe.data = .fields vs
inductive Tag where
  | no | tmp | fz | obj (n : Nat) | slot (i : Nat)
  deriving DecidableEq
structure G where
  tg : Addr → Tag
  m : Nat → Addr
  n : Nat
def G.set (g : G) (p : Addr) (t : Tag) : G := { g with tg := fun a => if a = p then t else g.tg a }
theorem G.set_same {g : G} {p : Addr} {t : Tag} : (g.set p t).tg p = t := by unfold G.set; exact if_pos rfl
theorem G.set_ne {g : G} {p a : Addr} {t : Tag} (h : a ≠ p) : (g.set p t).tg a = g.tg a := by unfold G.set; exact if_neg h

section
variable (K : PySem.W.Frag) (g : G) (H : Hp)
mutual
inductive RW : W → V → Prop
  | non : RW .non .non
  | bl (b : Bool) : RW (.bl b) (.bl b)
  | int (i : Int) : RW (.int i) (.int i)
  | str (x : Str) : RW (.str x) (.str x)
  | ty (n : String) : RW (.ty n) (.ty n)
  | adr (a : Addr) : RW (.adr a) (.ref a)
  | fn (x : Str) : RW (.fn x) (.ref (He.ga K x))
  | ref (n : Nat) : n < g.n → RW (.ref n) (.ref (g.m n))
  | tup {a : Addr} {vs : List V} {xs : List W} : ((g.tg a = .fz ∧ H a = some (.tup vs)) ∨ ∀ H', SqT K H' a vs) → RWs xs vs → RW (.tup xs) (.ref a)
  | lst {a : Addr} {vs : List V} {xs : List W} : (g.tg a = .fz ∧ H a = some (.lst vs)) → RWs xs vs → RW (.lst xs) (.ref a)
  | rol {a : Addr} {vs : List V} {xs : List W} : ((g.tg a = .fz ∧ Rd H a (.lst vs)) ∨ ∀ H', SqL K H' a vs) → RWs xs vs → RW (.rol xs) (.ref a)
  | dic {a : Addr} {hvs : List (Key × V)} {ks : List Key} {ws : List W} : (∃ od, g.tg a = .fz ∧ H a = some (.frz od (.dK hvs))) → ks = hvs.map (·.1) → RWs ws (hvs.map (·.2)) → RW (.dic ks ws) (.ref a)
  | xcp {a d : Addr} {vs : List (Str × V)} {ns : List Str} {ws : List W} : (g.tg d = .fz ∧ H d = some (.xd vs)) → ns = vs.map (·.1) → RWs ws (vs.map (·.2)) → RW (.xcp a d ns ws) (.ref a)
  | tud {a : Addr} {vs : List V} {xs : List W} : (∃ o : Obj, o.dict = none ∧ g.tg a = .fz ∧ H a = some (.frz o (.tup vs))) → RWs xs vs → RW (.tud xs) (.ref a)
  | exn {a : Addr} {c : Ec} {od : Option Addr} {vs : List (Str × V)} {ns : List Str} {ws : List W} : (g.tg a = .fz ∧ H a = some (ExN (.ref (He.ga K c.s)) od a)) → ((od = none ∧ vs = []) ∨ ∃ d, od = some d ∧ g.tg d = .fz ∧ H d = some (.xd vs)) → ns = vs.map (·.1) → RWs ws (vs.map (·.2)) → RW (.exn c ns ws) (.ref a)
inductive RWs : List W → List V → Prop
  | nil : RWs [] []
  | cons {x : W} {v : V} {xs : List W} {vs : List V} : RW x v → RWs xs vs → RWs (x :: xs) (v :: vs)
end
def NdR : Nd → HO → Prop
  | .lst xs, .lst vs => RWs K g H xs vs
  | .dic kvs, .dK hvs => kvs.map (·.1) = hvs.map (·.1) ∧ RWs K g H (kvs.map (·.2)) (hvs.map (·.2))
  | _, _ => False
def RT (σ : L2.St) : T → V → Prop
  | .w w, v => RW K g H w v
  | .new n, v => ∃ a o, v = .ref a ∧ g.tg a = .tmp ∧ H a = some o ∧ NdR K g H n o
  | .loc i, v => σ[i]? = some (some v)
def SltR (i : Nat) : Sl → Option V → Prop
  | .no, _ => True
  | .val w, o => ∃ v, o = some v ∧ RW K g H w v
  | .own n, o => ∃ a ho, o = some (.ref a) ∧ g.tg a = .slot i ∧ H a = some ho ∧ NdR K g H n ho
  | .bor n, o => ∃ a ho, o = some (.ref a) ∧ g.tg a = .no ∧ H a = some ho ∧ NdR K g H n ho
def ObR (a : Addr) : Ob → Prop
  | .con n => ∃ o, H a = some o ∧ NdR K g H n o
  | .ins c fs => ∃ dx vs, H a = some (.ins (He.ga K c.s) dx vs) ∧ fs.map (·.1.s) = vs.map (·.1) ∧ RWs K g H (fs.map (·.2)) (vs.map (·.2))
structure ObsR (s : List Ob) : Prop where
  n : g.n = s.length
  ob : ∀ j b, s[j]? = some b → g.tg (g.m j) = .obj j ∧ ObR K g H (g.m j) b
structure Rel (st : FS) (σ : L2.St) : Prop where
  len : st.r.length = σ.length
  sl : ∀ i x, st.r[i]? = some x → ∃ o, σ[i]? = some o ∧ SltR K g H i x o
  ob : ObsR K g H st.s
end

structure Le (g : G) (H : Hp) (g' : G) (H' : Hp) : Prop where
  n : g.n ≤ g'.n
  m : ∀ j, j < g.n → g'.m j = g.m j
  fz : ∀ a o, g.tg a = .fz → H a = some o → g'.tg a = .fz ∧ H' a = some o
  no : ∀ a o, (g.tg a = .no ∨ g.tg a = .tmp) → H a = some o → g'.tg a = g.tg a ∧ H' a = some o
  dom : ∀ a, H' a = none → H a = none
structure Lw (g : G) (H : Hp) (g' : G) (H' : Hp) : Prop where
  n : g.n ≤ g'.n
  m : ∀ j, j < g.n → g'.m j = g.m j
  fz : ∀ a o, g.tg a = .fz → H a = some o → g'.tg a = .fz ∧ H' a = some o
  no : ∀ a o, g.tg a = .no → H a = some o → g'.tg a = g.tg a ∧ H' a = some o
  dom : ∀ a, H' a = none → H a = none
theorem Le.lw {g g' : G} {H H' : Hp} (e : Le g H g' H') : Lw g H g' H' := ⟨e.n, e.m, e.fz, fun a o h => e.no a o (Or.inl h), e.dom⟩
structure Sim (g : G) (H : Hp) (g' : G) (H' : Hp) : Prop where
  n : g'.n = g.n
  m : g'.m = g.m
  at_ : ∀ a o, H a = some o → g.tg a ≠ .tmp → g'.tg a = g.tg a ∧ H' a = some o
theorem Le.refl (g : G) (H : Hp) : Le g H g H := ⟨Nat.le_refl _, fun _ _ => rfl, fun _ _ h e => ⟨h, e⟩, fun _ _ _ e => ⟨rfl, e⟩, fun _ h => h⟩
theorem Le.trans {g g1 g2 : G} {H H1 H2 : Hp} (a : Le g H g1 H1) (b : Le g1 H1 g2 H2) : Le g H g2 H2 :=
  ⟨Nat.le_trans a.n b.n, fun j h => (b.m j (Nat.lt_of_lt_of_le h a.n)).trans (a.m j h), fun x o h e => b.fz x o (a.fz x o h e).1 (a.fz x o h e).2,
    fun x o h e => by
      obtain ⟨h1, e1⟩ := a.no x o h e
      obtain ⟨h2, e2⟩ := b.no x o (by rw [h1]; exact h) e1
      exact ⟨h2.trans h1, e2⟩, fun x h => a.dom x (b.dom x h)⟩
theorem Sim.refl (g : G) (H : Hp) : Sim g H g H := ⟨rfl, rfl, fun _ _ e _ => ⟨rfl, e⟩⟩
theorem rd_keep {H H' : Hp} {a : Addr} {u : HO} (k : ∀ o, H a = some o → H' a = some o) (h : Rd H a u) : Rd H' a u := by
  rcases h with h | ⟨o, h⟩
  · exact Or.inl (k _ h)
  · exact Or.inr ⟨o, k _ h⟩
theorem rd_some {H : Hp} {a : Addr} {u : HO} (h : Rd H a u) : ∃ o, H a = some o := by
  rcases h with h | ⟨o, h⟩
  · exact ⟨_, h⟩
  · exact ⟨_, h⟩

section
variable {K : PySem.W.Frag} {g g' : G} {H H' : Hp}
def Fzk (g : G) (H : Hp) (g' : G) (H' : Hp) : Prop := (∀ j, j < g.n → g'.m j = g.m j) ∧ g.n ≤ g'.n ∧ ∀ a o, g.tg a = .fz → H a = some o → g'.tg a = .fz ∧ H' a = some o
theorem Le.fzk (e : Le g H g' H') : Fzk g H g' H' := ⟨e.m, e.n, e.fz⟩
theorem Sim.fzk (e : Sim g H g' H') : Fzk g H g' H' := ⟨fun j _ => by rw [e.m], Nat.le_of_eq e.n.symm, fun a o h q => by
  obtain ⟨h1, h2⟩ := e.at_ a o q (by rw [h]; exact fun z => nomatch z)
  exact ⟨h1.trans h, h2⟩⟩
mutual
theorem RW.keep (e : Fzk g H g' H') : ∀ {w : W} {v : V}, RW K g H w v → RW K g' H' w v
  | _, _, .non => .non
  | _, _, .bl b => .bl b
  | _, _, .int i => .int i
  | _, _, .str x => .str x
  | _, _, .ty n => .ty n
  | _, _, .adr a => .adr a
  | _, _, .fn a => .fn a
  | _, _, .ref n h => by
    have z : RW K g' H' (.ref n) (.ref (g'.m n)) := .ref n (Nat.lt_of_lt_of_le h e.2.1)
    rw [e.1 n h] at z
    exact z
  | _, _, .tup h hs => .tup (by
    rcases h with ⟨h1, h2⟩ | h
    · exact Or.inl (e.2.2 _ _ h1 h2)
    · exact Or.inr h) (RWs.keep e hs)
  | _, _, .lst h hs => .lst (e.2.2 _ _ h.1 h.2) (RWs.keep e hs)
  | _, _, .rol h hs => .rol (by
    rcases h with ⟨h1, h2⟩ | h
    · obtain ⟨o, ho⟩ := rd_some h2
      exact Or.inl ⟨(e.2.2 _ _ h1 ho).1, rd_keep (fun o h => (e.2.2 _ o h1 h).2) h2⟩
    · exact Or.inr h) (RWs.keep e hs)
  | _, _, .dic h hk hs => .dic (by
    obtain ⟨od, h1, h2⟩ := h
    exact ⟨od, e.2.2 _ _ h1 h2⟩) hk (RWs.keep e hs)
  | _, _, .xcp h hk hs => .xcp (e.2.2 _ _ h.1 h.2) hk (RWs.keep e hs)
  | _, _, .tud h hs => .tud (by
    obtain ⟨o, h0, h1, h2⟩ := h
    exact ⟨o, h0, e.2.2 _ _ h1 h2⟩) (RWs.keep e hs)
  | _, _, .exn h h2 hk hs => .exn (e.2.2 _ _ h.1 h.2) (by
    rcases h2 with h2 | ⟨d, q0, q1, q2⟩
    · exact Or.inl h2
    · exact Or.inr ⟨d, q0, e.2.2 _ _ q1 q2⟩) hk (RWs.keep e hs)
theorem RWs.keep (e : Fzk g H g' H') : ∀ {ws : List W} {vs : List V}, RWs K g H ws vs → RWs K g' H' ws vs
  | _, _, .nil => .nil
  | _, _, .cons h hs => .cons (RW.keep e h) (RWs.keep e hs)
end
theorem NdR.keep (e : Fzk g H g' H') : ∀ {n : Nd} {o : HO}, NdR K g H n o → NdR K g' H' n o := by
  intro n o h
  cases n <;> cases o <;> first
    | exact RWs.keep e h
    | exact ⟨h.1, RWs.keep e h.2⟩
    | exact h.elim
theorem ObR.some {a : Addr} : ∀ {b : Ob}, ObR K g H a b → ∃ o, H a = some o := by
  intro b h
  cases b with
  | con n => obtain ⟨o, h1, _⟩ := h; exact ⟨o, h1⟩
  | ins c fs => obtain ⟨dx, vs, h1, _⟩ := h; exact ⟨_, h1⟩
theorem ObR.keep {a : Addr} (e : Fzk g H g' H') (k : ∀ o, H a = Option.some o → H' a = Option.some o) : ∀ {b : Ob}, ObR K g H a b → ObR K g' H' a b := by
  intro b h
  cases b with
  | con n => obtain ⟨o, h1, h2⟩ := h; exact ⟨o, k _ h1, h2.keep e⟩
  | ins c fs => obtain ⟨dx, vs, h1, h2, h3⟩ := h; exact ⟨dx, vs, k _ h1, h2, RWs.keep e h3⟩
theorem RT.le {σ : L2.St} (e : Le g H g' H') : ∀ {t : T} {v : V}, RT K g H σ t v → RT K g' H' σ t v := by
  intro t v h
  cases t with
  | w w => exact RW.keep e.fzk h
  | new n =>
    obtain ⟨a, o, h1, h2, h3, h4⟩ := h
    obtain ⟨q1, q2⟩ := e.no a o (Or.inr h2) h3
    exact ⟨a, o, h1, q1.trans h2, q2, h4.keep e.fzk⟩
  | loc i => exact h
theorem SltR.sim (e : Sim g H g' H') : ∀ {i : Nat} {x : Sl} {o : Option V}, SltR K g H i x o → SltR K g' H' i x o := by
  intro i x o h
  cases x with
  | no => trivial
  | val w =>
    obtain ⟨v, h1, h2⟩ := h
    exact ⟨v, h1, h2.keep e.fzk⟩
  | own n =>
    obtain ⟨a, ho, h1, h2, h3, h4⟩ := h
    obtain ⟨q1, q2⟩ := e.at_ a ho h3 (by rw [h2]; exact fun z => nomatch z)
    exact ⟨a, ho, h1, q1.trans h2, q2, h4.keep e.fzk⟩
  | bor n =>
    obtain ⟨a, ho, h1, h2, h3, h4⟩ := h
    obtain ⟨q1, q2⟩ := e.at_ a ho h3 (by rw [h2]; exact fun z => nomatch z)
    exact ⟨a, ho, h1, q1.trans h2, q2, h4.keep e.fzk⟩
theorem ObsR.sim {s : List Ob} (e : Sim g H g' H') (h : ObsR K g H s) : ObsR K g' H' s := ⟨e.n.trans h.n, fun j b hb => by
  obtain ⟨h1, h2⟩ := h.ob j b hb
  rw [e.m]
  obtain ⟨o, h3⟩ := h2.some
  obtain ⟨q1, q2⟩ := e.at_ _ o h3 (by rw [h1]; exact fun z => nomatch z)
  exact ⟨q1.trans h1, h2.keep e.fzk fun o ho => (e.at_ _ o ho (by rw [h1]; exact fun z => nomatch z)).2⟩⟩
theorem Rel.sim {st : FS} {σ : L2.St} (e : Sim g H g' H') (h : Rel K g H st σ) : Rel K g' H' st σ := ⟨h.len, fun i x hx => by
  obtain ⟨o, h1, h2⟩ := h.sl i x hx
  exact ⟨o, h1, h2.sim e⟩, h.ob.sim e⟩
theorem Sim.new {p : Addr} {o : HO} {t : Tag} (hp : H p = none) : Sim g H (g.set p t) (upd H p o) := ⟨rfl, rfl, fun a u e _ => by
  have ne : a ≠ p := ne_of_none e hp
  exact ⟨G.set_ne ne, by rw [upd_ne ne]; exact e⟩⟩
theorem Le.new {p : Addr} {o : HO} {t : Tag} (hp : H p = none) : Le g H (g.set p t) (upd H p o) :=
  ⟨Nat.le_refl _, fun _ _ => rfl, fun a u h e => by
    have ne : a ≠ p := ne_of_none e hp
    rw [G.set_ne ne, upd_ne ne]
    exact ⟨h, e⟩, fun a u h e => by
    have ne : a ≠ p := ne_of_none e hp
    rw [G.set_ne ne, upd_ne ne]
    exact ⟨rfl, e⟩, fun a h => by
    by_cases e : a = p
    · rw [e]; exact hp
    · rw [upd_ne e] at h; exact h⟩
theorem Sim.tag {p : Addr} {t : Tag} (hp : g.tg p = .tmp) : Sim g H (g.set p t) H := ⟨rfl, rfl, fun a u e h => by
  have ne : a ≠ p := fun z => h (by rw [z]; exact hp)
  exact ⟨G.set_ne ne, e⟩⟩
def Free (g : G) (H : Hp) (a : Addr) : Prop := ∀ o, H a = some o → g.tg a ≠ .fz ∧ g.tg a ≠ .no ∧ g.tg a ≠ .tmp
theorem Free.none {a : Addr} (h : H a = none) : Free g H a := fun o e => by rw [h] at e; cases e
theorem Free.back {g1 : G} {H1 : Hp} {a : Addr} (e : Le g H g1 H1) (h : Free g1 H1 a) : Free g H a := fun o q =>
  ⟨fun z => (h o (e.fz a o z q).2).1 (e.fz a o z q).1,
    fun z => (h o (e.no a o (Or.inl z) q).2).2.1 ((e.no a o (Or.inl z) q).1.trans z),
    fun z => (h o (e.no a o (Or.inr z) q).2).2.2 ((e.no a o (Or.inr z) q).1.trans z)⟩
theorem Le.tag {g0 : G} {H0 : Hp} {p : Addr} {t : Tag} (e : Le g0 H0 g H) (hp : Free g0 H0 p) : Le g0 H0 (g.set p t) H :=
  ⟨e.n, e.m, fun a u h q => by
    have ne : a ≠ p := fun z => by subst z; exact (hp u q).1 h
    rw [G.set_ne ne]
    exact e.fz a u h q, fun a u h q => by
    have ne : a ≠ p := fun z => by
      subst z
      rcases h with h | h
      · exact (hp u q).2.1 h
      · exact (hp u q).2.2 h
    rw [G.set_ne ne]
    exact e.no a u h q, e.dom⟩
theorem RWs.length : ∀ {ws : List W} {vs : List V}, RWs K g H ws vs → ws.length = vs.length
  | _, _, .nil => rfl
  | _, _, .cons _ hs => congrArg (· + 1) (RWs.length hs)
theorem RWs.get : ∀ {ws : List W} {vs : List V} {i : Nat} {w : W}, RWs K g H ws vs → ws[i]? = some w → ∃ v, vs[i]? = some v ∧ RW K g H w v
  | _, _, 0, _, .cons h _, e => by
    simp only [List.getElem?_cons_zero, Option.some.injEq] at e
    subst e
    exact ⟨_, rfl, h⟩
  | _, _, i + 1, _, .cons _ hs, e => by
    obtain ⟨v, h1, h2⟩ := RWs.get (i := i) hs (by simpa using e)
    exact ⟨v, by simpa using h1, h2⟩
theorem RWs.append : ∀ {ws us : List W} {vs zs : List V}, RWs K g H ws vs → RWs K g H us zs → RWs K g H (ws ++ us) (vs ++ zs)
  | _, _, _, _, .nil, h => h
  | _, _, _, _, .cons h hs, q => .cons h (RWs.append hs q)
theorem RWs.take : ∀ {ws : List W} {vs : List V} (n : Nat), RWs K g H ws vs → RWs K g H (ws.take n) (vs.take n)
  | _, _, 0, _ => .nil
  | _, _, _ + 1, .nil => .nil
  | _, _, n + 1, .cons h hs => .cons h (RWs.take n hs)
theorem RWs.drop : ∀ {ws : List W} {vs : List V} (n : Nat), RWs K g H ws vs → RWs K g H (ws.drop n) (vs.drop n)
  | _, _, 0, h => h
  | _, _, _ + 1, .nil => .nil
  | _, _, n + 1, .cons _ hs => RWs.drop n hs
theorem RWs.ints {ns : List Int} : ∀ {vs : List V}, RWs K g H (ns.map W.int) vs → vs = ns.map V.int := by
  induction ns with
  | nil => intro vs h; cases h; rfl
  | cons n ns ih =>
    intro vs h
    cases h with
    | cons h hs =>
      cases h
      rw [ih hs]
      rfl
theorem RWs.of_ints {ns : List Int} : RWs K g H (ns.map W.int) (ns.map V.int) := by
  induction ns with
  | nil => exact .nil
  | cons n ns ih => exact .cons (.int n) ih
end
end MV

namespace MV
open PySem PySem.Spec PyProof.Rows L2
structure FnG (P : Program) (w : World) (K : PySem.W.Frag) (mg : Str → Option Value) (base : Heap) (CX : CXT) (k : Nat) (f : Addr) (fd : FuncData) (ps : List Str) (sp : Sp) : Prop where
  ln : ∀ as H Q E, sp as H Q E → as.length = ps.length
  go : ∀ (A : Around) (out : List Env) (s : Shared) (H : Hp) (ag : Args) (us : List Value) (as : List V) (Q : VK) (E : XK), Room k A → A.guards = some [] → Env0 P w K mg base A out s H → BindsTo s fd ag (ps.zip us) → Vals as us →
    sp as H Q E → codeAny (model P w) A (.call (.ref f) ag) (CR CX out P w H s Q E) s
section
variable {P : Program} {w : World} {K : PySem.W.Frag} {mg : Str → Option Value} {base : Heap} {CX : CXT} {x qual : Str} {params : Arguments} {body : List Stmt} {scope : Scope} {dvs : List V} {kws : List (Str × V)} {f : Addr} {fd : FuncData} {N ps : List Str} {k : Nat} {sp : Sp}
theorem fnG_of (F : FunD K x qual params body scope dvs kws f fd) (S : FnScope N ps scope) (ln : ∀ as H Q E, sp as H Q E → as.length = ps.length)
    (hb : ∀ (cdv : Value) (A : Around) (out : List Env) (s : Shared) (H : Hp) (as : List V) (Q : VK) (E : XK), Room k (A.deeper (envOfC qual scope s.heap.objs.size f cdv)) → A.guards = some [] → sp as H Q E →
      ∃ t, PSs (cxOf CX P w K mg base N qual scope f cdv A out s H E) body t ∧ t { nx := fun _ H2 => Q .non H2, rt := Q } (start N as) H) : FnG P w K mg base CX (k + 1) f fd ps sp := by
  obtain ⟨c1, d1, dV, kV, doc, pm, an, cdv, ct, sl1, rfl, lk, hcd, _, _⟩ := F.ex
  refine ⟨ln, fun A out s H ag us as Q E room hgd env bd vv hs => ?_⟩
  have hlen := ln _ _ _ _ hs
  have kin : K.In s.heap := env.mod.kin.keeps fun b o e => (env.bs b o e).1
  have nol : s.heap.NoLimit := env.mod.nolimit.keeps fun b o e => (env.bs b o e).1
  have kinds : ∀ z ∈ ps.zip us, scope.names.lookup z.1 = some .local ∨ (scope.names.lookup z.1 = some .cell ∧ ((cellsFrom (s.heap.objs.size + 1) scope.names []).lookup z.1).isSome = true) := by
    rintro ⟨a, u⟩ hz
    cases S.par a (List.of_mem_zip hz).1 with
    | inl q => exact Or.inl q
    | inr q => exact Or.inr ⟨q, PySem.W.cellsFrom_some _ _ _ (.inl q)⟩
  refine codeAny_call_function room.depth (kin _ _ lk) rfl S.co S.gen rfl (PySem.W.codeRec_of kin hcd) (bd _ _ _ _ ?_)
  refine wpAny_newFunctionEnv_cells S.kind kinds fun env1 he s1 ic => ?_
  subst he
  obtain ⟨t, ht, hq⟩ := hb cdv A out s H as Q E (room.deeper _) hgd hs
  refine ⟨nol.keeps ic.toInCall.keep, codeAny_func (wpAny_mono (ht.run [] s1 (start N as) H _ (inv_start S room.hd env hlen vv ic) hq) (fun fl s2 h2 => ?_) fun e s2 h2 => h2)⟩
  have out_ : ∀ {τ : L2.St} {H2 : Hp} {v : V} {u : Value}, Inv (cxOf CX P w K mg base N qual scope f cdv A out s H E) [] τ H2 s2 → RelV v u → Q v H2 → CE out P w H s Q u s2 := fun J rv q => ⟨_, _, J.os, J.bare, J.base, J.hok, rv, q⟩
  cases fl with
  | ret u =>
    obtain ⟨v, τ, H2, J, rv, q⟩ := h2
    exact out_ J rv q
  | next =>
    obtain ⟨τ, H2, J, q⟩ := h2
    exact out_ (v := V.non) (u := Value.none) J rfl q
  | brk => obtain ⟨_, _, _, q⟩ := h2; exact q.elim
  | cont => obtain ⟨_, _, _, q⟩ := h2; exact q.elim
end
section
variable {X : Cx} {CX : CXT} {k : Nat} {f : Addr} {fd : FuncData} {ps : List Str} {sp : Sp} {dvs : List V} {ds : List Value} {E : L2.St → XK} {x : Str} {p pos : Pos} {e : Expr} {es : List Expr} {t : TA}
theorem run_G {pins : List (Addr × Obj)} {σ : L2.St} {H : Hp} {s : Shared} {Q : VK} {us : List Value} {vs : List V} (F : FnG X.prog X.w X.K X.mg X.base CX k f fd ps sp) (hr : Room k X.A) (hgd : X.A.guards = some []) (hb : Binds X.K fd ps ds) (hd : Vals dvs ds)
    (hx : PassesAt CX X σ (E σ)) (I : Inv X pins σ H s) (r : Vals vs us) (h : sp (vs ++ dvs) H Q (E σ)) : wpAny (model X.prog X.w) X.A (call (.ref f) us) (EP X pins σ Q) X.xe s := by
  have r2 := r.append hd
  have hl : (us ++ ds).length = ps.length := by rw [← r2.length]; exact F.ln _ _ _ _ h
  refine wpAny_call (codeAny_mono (F.go X.A X.stack s H ⟨us, []⟩ (us ++ ds) (vs ++ dvs) Q (E σ) hr hgd I.env0 (hb s us I.kIn hl) r2 h) ?_)
  intro res s2 h2
  cases res with
  | error er => exact hx pins H s er s2 I h2
  | ok fl =>
    cases fl with
    | ret u => exact I.after h2
    | next => exact h2.elim
    | brk => exact h2.elim
    | cont => exact h2.elim
theorem pe_callG (F : FnG X.prog X.w X.K X.mg X.base CX k f fd ps sp) (hr : Room k X.A) (hgd : X.A.guards = some []) (hg : Gl X x) (hm : X.mg x = some (.ref f)) (hk : PySem.W.keepIn X.K (.ref f) = true) (hb : Binds X.K fd ps ds) (hd : Vals dvs ds) (hx : ∀ σ, PassesAt CX X σ (E σ))
    (ha : PA X (e :: es) t) (hdb : (x == ("__debug__" : Str)) = false := by decide) (he : starEach (e :: es) X.env = (false, eval e X.env) :: starEach es X.env := by rfl) (hpl : (backTo pos (starEach es X.env)).any (·.1) = false := by rfl) :
    PE X (.Call (.Name x p) (e :: es) [] pos) (tCallSD sp dvs E t) := ⟨fun pins s σ H Q I h =>
  wpAny_Call_Name_kw (ld_glob I hg hm (PySem.W.callWith_K (h₀ := X.base) I.ok.mod.kin hk (thn (ha.run pos pins s σ H _ I h) fun us s1 ⟨vs, H1, I1, r, q⟩ => ⟨I1.kIn, run_G F hr hgd hb hd (hx σ) I1 r q⟩) he hpl) hdb)⟩
end
theorem law_G {P : Program} {w : World} {K : PySem.W.Frag} {mg mb : Str → Option Value} {CX : CXT} {k : Nat} {fa a : Addr} {fd : FuncData} {x : Str} {sp : Sp} {s0 : Shared} {us : List Value} {ns : List Int}
    (KX : K.In s0.heap) (hns : s0.heap.Ns mainGlobals mg) (hb : s0.heap.Ns builtinsNs mb) (hbb : ∀ z : Str, z ≠ "__name__" → mb z = bootBuiltins z) (nol : s0.heap.NoLimit) (hgen : s0.gens = #[])
    (ha : s0.heap.get? a = some { cls := .type "list", data := .seq us.toArray }) (hi : IntsAre us ns) (hl : ns.length ≤ sizeLine) (hr : Room k callerA)
    (F : ∀ base : Heap, K.In base → base.Ns mainGlobals mg → FnG P w K mg base CX k fa fd [x] sp) (hbd : ∀ (s : Shared) (u : Value), BindsTo s fd ⟨[u], []⟩ [(x, u)])
    (hsp : ∀ H : Hp, SqL K H a (ns.map V.int) → sp [.ref a] H (fun v _ => v = .bl true) fun _ _ _ => False) (hCX : ∀ H e s2, CX [] H s0 (fun _ _ _ => False) e s2 → False) :
    codeAny (model P w) callerA (.call (.ref fa) ⟨[.ref a], []⟩) (fun r s2 => r = .ok (.ret (.bool true)) ∧ OldK s0.heap s2.heap ∧ s2.os = s0.os ∧ AllBare s2.gens) s0 := by
  have rv := vals_ints hi
  have hln := hi.length
  have main_ : ∀ H : Hp, Only H → SqL K H a (ns.map V.int) → HOk P w H s0.heap → (∀ b, H b ≠ none → b = a) → (H a ≠ none → K.lookup a = none) →
      codeAny (model P w) callerA (.call (.ref fa) ⟨[.ref a], []⟩) (fun r s2 => r = .ok (.ret (.bool true)) ∧ OldK s0.heap s2.heap ∧ s2.os = s0.os ∧ AllBare s2.gens) s0 := by
    intro H only seq hok hA hK
    have at_ : ∀ {b : Addr} {u : HO}, H b = some u → b = a := fun {b u} q => hA b (by rw [q]; exact Option.some_ne_none u)
    have hid : ∀ {b : Addr} {o : Obj}, s0.heap.get? b = some o → H b = none → (hidT s0.heap H).get? b = some o := fun e n => hidT_get e n
    have dictNo : ∀ {b : Addr} {o : Obj} {es : Array DictEntry} {ep : Nat}, s0.heap.get? b = some o → o.data = .dict es ep → H b = none := by
      intro b o es ep e d
      cases q : H b with
      | none => rfl
      | some u =>
        have z := at_ q
        subst z
        rw [ha] at e
        cases e
        exact absurd (show Data.seq us.toArray _ = Data.dict es ep from d) (fun z => nomatch z)
    have nsH : ∀ {b : Addr} {m : Str → Option Value}, s0.heap.Ns b m → (hidT s0.heap H).Ns b m := by
      rintro b m ⟨o, es, ep, e, d, r⟩
      exact ⟨o, es, ep, hid e (dictNo e d), d, r⟩
    have kin : K.In (hidT s0.heap H) := fun b o e => by
      refine hid (KX b o e) ?_
      cases q : H b with
      | none => rfl
      | some u =>
        have z := at_ q
        subst z
        rw [hK (by rw [q]; exact Option.some_ne_none u)] at e
        cases e
    obtain ⟨mc, n1, n2⟩ := nol
    have env : Env0 P w K mg (hidT s0.heap H) callerA [] s0 H := ⟨rfl, ⟨kin, nsH hns, ⟨mb, nsH hb, hbb⟩, ⟨mc, nsH n1, n2⟩⟩, fun b o e => of_hidT e, Nat.le_of_eq (hidT_size _ _), trivial, fun b z => absurd (show b ∈ ([] : List Addr) from z) List.not_mem_nil, hok, .of_eq hgen⟩
    refine codeAny_mono ((F _ kin (nsH hns)).go callerA [] s0 H ⟨[.ref a], []⟩ [.ref a] [.ref a] _ _ hr rfl env (hbd s0 (.ref a)) (.cons rfl .nil) (hsp H seq)) ?_
    intro r s2 h
    cases r with
    | error e => exact (hCX H e s2 h).elim
    | ok fl =>
      cases fl with
      | next => exact h.elim
      | brk => exact h.elim
      | cont => exact h.elim
      | ret u =>
        obtain ⟨v, H2, os, bare, un, hok2, r2, q⟩ := h
        have q : v = .bl true := q
        subst q
        have r2 : u = Value.bool true := r2
        subst r2
        refine ⟨rfl, OldK.of_keep fun b o e => ?_, os, bare⟩
        cases q : H b with
        | none => exact un.keep b o e q (fun z => absurd (show b ∈ ([] : List Addr) from z) List.not_mem_nil) (by simp)
        | some u =>
          rcases only b with z | ⟨ob, xs, z⟩
          · rw [q] at z
            cases z
          · have e1 := (hok b _ z).1
            have e2 := (hok2 b _ (un.frzs b ob _ z)).1
            rw [e] at e1
            cases e1
            exact e2
  by_cases hk : ∃ o, K.lookup a = some o
  · obtain ⟨o, hk⟩ := hk
    have e := KX a o hk
    rw [ha] at e
    cases e
    exact main_ (fun _ => none) (fun _ => Or.inl rfl) (Or.inr ⟨_, us.toArray, _, hk, rfl, rfl, rfl, by rw [List.size_toArray, hln]; exact hl, by simpa using rv⟩) (fun b u z => absurd (show (none : Option HO) = some u from z) (fun z => nomatch z)) (fun b z => absurd rfl z) (fun z => absurd rfl z)
  · have hn : K.lookup a = none := by
      cases q : K.lookup a with
      | none => rfl
      | some o => exact absurd ⟨o, q⟩ hk
    have far : ∀ {b : Addr}, b ≠ a → (if b = a then some (HO.frz { cls := .type "list", data := .seq us.toArray } (.lst (ns.map V.int))) else none) = none := fun h => if_neg h
    refine main_ (fun b => if b = a then some (.frz { cls := .type "list", data := .seq us.toArray } (.lst (ns.map V.int))) else none) ?_ (Or.inl (Or.inr ⟨{ cls := .type "list", data := .seq us.toArray }, if_pos rfl⟩)) ?_ ?_ (fun _ => hn)
    · intro b
      by_cases hb : b = a
      · exact Or.inr ⟨_, _, if_pos hb⟩
      · exact Or.inl (far hb)
    · intro b u z
      by_cases hb : b = a
      · have z2 := (if_pos hb).symm.trans z
        cases z2
        subst hb
        exact ⟨ha, by rw [List.length_map]; exact hl, us, _, rv, ha⟩
      · have z2 := (far hb).symm.trans z
        cases z2
    · intro b z
      by_cases hb : b = a
      · exact hb
      · exact absurd (far hb) z
theorem walk_G {l : PySem.W.OpenLaw} {n k : Nat} {q : Program} {loose : List Str} {XP : (Str → Option Value) → Heap → Prop} {YP : World → Heap → Prop} {d : DefRec} {CX : World → CXT} {x : Str}
    (hn : l.most = some n) (hz : n ≤ sizeLine) (hdf : d.params.defaults = []) (hr : Room k callerA)
    (F : ∀ (w : World) (mg : Str → Option Value) (fa : Addr) (h : Heap), YP w h → h.Ns mainGlobals mg → mg d.name = some (.ref fa) → ∃ (K : PySem.W.Frag) (fd : FuncData) (sp : Sp), K.In h ∧ (∀ (s : Shared) (u : Value), BindsTo s fd ⟨[u], []⟩ [(x, u)]) ∧
      (∀ (H : Hp) (a : Addr) (ns : List Int), ns.length ≤ n → (∀ z ∈ ns, Builtin.Int.intBits z ≤ 1048576) → SqL K H a (ns.map V.int) → sp [.ref a] H (fun v _ => v = .bl true) fun _ _ _ => False) ∧
      ∀ base : Heap, K.In base → base.Ns mainGlobals mg → FnG l.prog w K mg base (CX w) k fa fd [x] sp)
    (hCX : ∀ (w : World) (H : Hp) (s : Shared) (e : Value) (s2 : Shared), CX w [] H s (fun _ _ _ => False) e s2 → False) :
    PySem.W.WalkO q loose XP YP l.row.toRowW d [] (fun f vs => PySem.call f vs) :=
  Att.attach_callB hn hdf fun w s0 s1 mg mb fa o pm cd doc a us ns G Y ho hd hcd hmg hobj hints hlen hbits hgen => by
    obtain ⟨K, fd, sp, KX, hb, hsp, hF⟩ := F w mg fa _ Y G.T.g hmg
    exact law_G KX G.T.g G.T.b G.T.builtins G.T.nolimit hgen hobj hints (Nat.le_trans hlen hz) hr hF hb (fun H hS => hsp H a ns hlen hbits hS) fun H e s2 => hCX w H s1 e s2
def rReprD (K : PySem.W.Frag) : List V → Hp → VK → Prop := fun xs H Q => ∃ (a : Addr) (d : PyData), xs = [.ref a] ∧ Dp K H (.ref a) d ∧ d.showable = true ∧ d.hasDict = false ∧ d.depth ≤ 64 ∧ d.shown.length ≤ sizeLine ∧ Q (.str d.shown) H
theorem call_reprD {X : Cx} (hgd : X.A.guards = some []) (hu : X.A.units + 65 < cLine) : CallR X (.builtin "repr") (rReprD X.K) := by
  intro pins s σ H xs us Q I r h
  obtain ⟨a, d, rfl, hd, h1, h2, h3, h4, q⟩ := h
  obtain ⟨u, rfl, ru⟩ := vals1 r
  obtain ⟨as, rd⟩ := Dp.reads I d _ u hd ru
  have ru : u = .ref a := ru
  subst ru
  exact repr_of_reads' rd h1 (fun z => by rw [h2] at z; cases z) hgd (by omega) (fun _ _ e => e) (fun h' t2 tk hk => ⟨.str _, H, I.kept hk, ⟨_, rfl⟩, q⟩) h4
end MV

namespace MV
open PySem PySem.Spec PyProof.Rows L2

abbrev MX := Ec → Option Addr → L2.St → Hp → Prop
def toWX (cv : Ec → Value) (Wx : MX) : WX := fun v d σ H => ∃ c, v = cv c ∧ Wx c d σ H
def XF (K : PySem.W.Frag) (g : G) (H : Hp) (d : Option Addr) (fs : List (Str × W)) : Prop :=
  (fs = [] ∧ d = none) ∨ ∃ a vs, d = some a ∧ (g.tg a = .fz ∧ H a = some (.xd vs)) ∧ (fs ≠ [] ∧ fs.map (·.1) = vs.map (·.1)) ∧ RWs K g H (fs.map (·.2)) (vs.map (·.2))
section
variable (K : PySem.W.Frag) (Wx : MX)
def Ok {α β : Type} (g0 : G) (H0 : Hp) (σ : L2.St) (Z : G → Hp → α → β → Prop) (Q : β → Hp → Prop) : R α → Prop
  | .ok t st => ∀ g H v, Le g0 H0 g H → Rel K g H st σ → Z g H t v → Q v H
  | .ex c fs st => ∀ g H d, Le g0 H0 g H → Rel K g H st σ → XF K g H d fs → Wx c d σ H
  | .stuck => False
def Fre (g0 : G) (H0 : Hp) (t : T) (v : V) : Prop := ∀ n, t = .new n → ∀ a, v = .ref a → Free g0 H0 a
def ZT (σ : L2.St) (g0 : G) (H0 : Hp) : G → Hp → T → V → Prop := fun g H t v => RT K g H σ t v ∧ Fre g0 H0 t v
def ZW : G → Hp → W → V → Prop := fun g H w v => RW K g H w v
def ZB : G → Hp → Bool → Bool → Prop := fun _ _ a b => a = b
def ZWs : G → Hp → List W → List V → Prop := fun g H w v => RWs K g H w v
def lE (d : FS → R T) : TE := fun σ H Q => ∃ g st, Rel K g H st σ ∧ Ok K Wx g H σ (ZT K σ g H) Q (d st)
def lW (d : FS → R W) : TE := fun σ H Q => ∃ g st, Rel K g H st σ ∧ Ok K Wx g H σ (ZW K) Q (d st)
def lB (d : FS → R Bool) : TT := fun σ H Q => ∃ g st, Rel K g H st σ ∧ Ok K Wx g H σ ZB Q (d st)
def lA (d : FS → R (List W)) : TA := fun σ H Q => ∃ g st, Rel K g H st σ ∧ Ok K Wx g H σ (ZWs K) Q (d st)
end
def VE (X : Cx) (Wx : MX) (e : Expr) (d : FS → R T) : Prop := PE X e (lE X.K Wx d)
def VW (X : Cx) (Wx : MX) (e : Expr) (d : FS → R W) : Prop := PE X e (lW X.K Wx d)
def VB (X : Cx) (Wx : MX) (e : Expr) (d : FS → R Bool) : Prop := PT X e (lB X.K Wx d)
def VA (X : Cx) (Wx : MX) (es : List Expr) (d : FS → R (List W)) : Prop := PA X es (lA X.K Wx d)
theorem PE_imp {X : Cx} {e : Expr} {t t' : TE} (h : PE X e t) (hi : ∀ σ H Q, t' σ H Q → t σ H Q) : PE X e t' := ⟨fun pins s σ H Q I q => h.run pins s σ H Q I (hi σ H Q q)⟩
theorem PT_imp {X : Cx} {e : Expr} {t t' : TT} (h : PT X e t) (hi : ∀ σ H Q, t' σ H Q → t σ H Q) : PT X e t' := ⟨fun pins s σ H Q I q => h.run pins s σ H Q I (hi σ H Q q)⟩
theorem PW_imp {X : Cx} {e : Expr} {t t' : TT} (h : PW X e t) (hi : ∀ σ H Q, t' σ H Q → t σ H Q) : PW X e t' := ⟨fun wh pins s σ H Q I q => h.run wh pins s σ H Q I (hi σ H Q q)⟩
theorem PA_imp {X : Cx} {es : List Expr} {t t' : TA} (h : PA X es t) (hi : ∀ σ H Q, t' σ H Q → t σ H Q) : PA X es t' := ⟨fun pos pins s σ H Q I q => h.run pos pins s σ H Q I (hi σ H Q q)⟩

theorem R.bind_assoc {α β γ : Type} (r : R α) (f : α → FS → R β) (h : β → FS → R γ) : (r.bind f).bind h = r.bind fun a st => (f a st).bind h := by
  cases r <;> rfl
section
variable {K : PySem.W.Frag} {Wx : MX} {g g0 g1 : G} {H H0 H1 : Hp} {σ : L2.St} {st : FS} {α β : Type} {Z : G → Hp → α → β → Prop} {Q : β → Hp → Prop}
theorem Ok.rebase {r : R α} (h : Ok K Wx g0 H0 σ Z Q r) (e : Le g0 H0 g1 H1) : Ok K Wx g1 H1 σ Z Q r := by
  cases r with
  | ok t st => exact fun g H v e1 => h g H v (e.trans e1)
  | ex c fs st => exact fun g H d e1 => h g H d (e.trans e1)
  | stuck => exact h
theorem Ok.impZ {r : R α} {Z' : G → Hp → α → β → Prop} (h : Ok K Wx g0 H0 σ Z Q r) (hz : ∀ g H t v, Z' g H t v → Z g H t v) : Ok K Wx g0 H0 σ Z' Q r := by
  cases r with
  | ok t st => exact fun g H v e1 r z => h g H v e1 r (hz _ _ _ _ z)
  | ex c fs st => exact h
  | stuck => exact h
theorem fre_mono {t : T} {v : V} (e : Le g0 H0 g1 H1) (h : Fre g1 H1 t v) : Fre g0 H0 t v := fun n q a z => (h n q a z).back e
theorem Ok.rebaseT {r : R T} {Q : VK} (h : Ok K Wx g0 H0 σ (ZT K σ g0 H0) Q r) (e : Le g0 H0 g1 H1) : Ok K Wx g1 H1 σ (ZT K σ g1 H1) Q r :=
  (h.rebase e).impZ fun _ _ _ _ z => ⟨z.1, fre_mono e z.2⟩
theorem Ok.seq {γ δ : Type} {r : R α} {f : α → FS → R γ} {Z2 : G → Hp → γ → δ → Prop} {Q2 : δ → Hp → Prop} {Qm : β → Hp → Prop}
    (h : Ok K Wx g0 H0 σ Z2 Q2 (r.bind f)) (k : ∀ t st1 g1 H1 v, r = .ok t st1 → Le g0 H0 g1 H1 → Rel K g1 H1 st1 σ → Z g1 H1 t v → Ok K Wx g0 H0 σ Z2 Q2 (f t st1) → Qm v H1) : Ok K Wx g0 H0 σ Z Qm r := by
  cases r with
  | ok t st => exact fun g1 H1 v e1 r1 z1 => k t st g1 H1 v rfl e1 r1 z1 h
  | ex c fs st => exact h
  | stuck => exact h
theorem Ok.seqR {γ δ : Type} {r : R α} {f : α → FS → R γ} {Z2 : G → Hp → γ → δ → Prop} {Q2 : δ → Hp → Prop} {Qm : β → Hp → Prop}
    (h : Ok K Wx g0 H0 σ Z2 Q2 (r.bind f)) (e : Le g0 H0 g1 H1) (k : ∀ t st1 g2 H2 v, r = .ok t st1 → Le g1 H1 g2 H2 → Rel K g2 H2 st1 σ → Z g2 H2 t v → Ok K Wx g0 H0 σ Z2 Q2 (f t st1) → Qm v H2) : Ok K Wx g1 H1 σ Z Qm r := by
  cases r with
  | ok t st => exact fun g2 H2 v e1 r1 z1 => k t st g2 H2 v rfl e1 r1 z1 h
  | ex c fs st => exact fun g H d e1 => h g H d (e.trans e1)
  | stuck => exact h
theorem Ok.here {t : α} (h : Ok K Wx g H σ Z Q (.ok t st)) (hr : Rel K g H st σ) {v : β} (hz : Z g H t v) : Q v H := h g H v (Le.refl g H) hr hz
end

section
variable {K : PySem.W.Frag} {Wx : MX} {g g0 : G} {H H0 : Hp} {σ : L2.St} {st : FS} {Q : VK}
theorem ok_w {w : W} {v : V} (h : Ok K Wx g H σ (ZT K σ g0 H0) Q (.ok (.w w) st)) (hr : Rel K g H st σ) (hw : RW K g H w v) : Q v H :=
  h.here hr ⟨hw, fun _ z => nomatch z⟩
theorem ok_new {n : Nd} {p : Addr} {o : HO} (h : Ok K Wx g H σ (ZT K σ g H) Q (.ok (.new n) st)) (hr : Rel K g H st σ) (hp : H p = none) (hn : NdR K g H n o) : Q (.ref p) (upd H p o) :=
  h (g.set p .tmp) (upd H p o) _ (Le.new hp) (hr.sim (Sim.new hp)) ⟨⟨p, o, rfl, G.set_same, upd_same, hn.keep (Le.new hp).fzk⟩, fun _ _ a z => by cases z; exact Free.none hp⟩
theorem ok_tup {xs : List W} {vs : List V} {p : Addr} (h : Ok K Wx g H σ (ZT K σ g0 H0) Q (.ok (.w (.tup xs)) st)) (hr : Rel K g H st σ) (hp : H p = none) (hn : RWs K g H xs vs) : Q (.ref p) (upd H p (.tup vs)) :=
  h (g.set p .fz) (upd H p (.tup vs)) _ (Le.new hp) (hr.sim (Sim.new hp)) ⟨.tup (Or.inl ⟨G.set_same, upd_same⟩) (hn.keep (Le.new hp).fzk), fun _ z => nomatch z⟩
end

@[simp] def lstOf (st : FS) : T → Option (List W)
  | .w (.lst xs) => some xs
  | .w (.ref n) => (match st.s[n]? with
    | some (.con (.lst xs)) => some xs
    | _ => none)
  | .new (.lst xs) => some xs
  | .loc i => (match st.r[i]? with
    | some (.own (.lst xs)) => some xs
    | some (.bor (.lst xs)) => some xs
    | _ => none)
  | _ => none
@[simp] def dicOf (st : FS) : T → Option (List (Key × W))
  | .w (.ref n) => (match st.s[n]? with
    | some (.con (.dic xs)) => some xs
    | _ => none)
  | .new (.dic xs) => some xs
  | .loc i => (match st.r[i]? with
    | some (.own (.dic xs)) => some xs
    | some (.bor (.dic xs)) => some xs
    | _ => none)
  | _ => none
@[simp] def seqOf (st : FS) : T → Option (List W)
  | .w (.tup xs) => some xs
  | .w (.rol xs) => some xs
  | t => lstOf st t
section
variable {K : PySem.W.Frag} {g : G} {H : Hp} {σ : L2.St} {st : FS}
theorem ndr_lst {xs : List W} {o : HO} (h : NdR K g H (.lst xs) o) : ∃ vs, o = .lst vs ∧ RWs K g H xs vs := by
  cases o <;> first
    | exact ⟨_, rfl, h⟩
    | exact h.elim
theorem ndr_dic {kvs : List (Key × W)} {o : HO} (h : NdR K g H (.dic kvs) o) : ∃ hvs, o = .dK hvs ∧ kvs.map (·.1) = hvs.map (·.1) ∧ RWs K g H (kvs.map (·.2)) (hvs.map (·.2)) := by
  cases o <;> first
    | exact ⟨_, rfl, h⟩
    | exact h.elim
theorem nd_of (hr : Rel K g H st σ) {t : T} {v : V} (ht : RT K g H σ t v) {n : Nd} (hn : (∃ m, t = .w (.ref m) ∧ st.s[m]? = some (.con n)) ∨ t = .new n ∨ ∃ i, t = .loc i ∧ (st.r[i]? = some (.own n) ∨ st.r[i]? = some (.bor n))) :
    ∃ a o, v = .ref a ∧ H a = some o ∧ NdR K g H n o := by
  rcases hn with ⟨m, rfl, e⟩ | rfl | ⟨i, rfl, e⟩
  · cases (show RW K g H (.ref m) v from ht) with
    | ref _ hlt =>
      obtain ⟨_, o, h1, h2⟩ := hr.ob.ob m _ e
      exact ⟨_, o, rfl, h1, h2⟩
  · obtain ⟨a, o, h1, _, h3, h4⟩ := ht
    exact ⟨a, o, h1, h3, h4⟩
  · have hv : σ[i]? = some (some v) := ht
    rcases e with e | e
    · obtain ⟨o, h1, a, ho, h2, _, h3, h4⟩ := hr.sl i _ e
      rw [hv] at h1
      cases h1
      cases h2
      exact ⟨a, ho, rfl, h3, h4⟩
    · obtain ⟨o, h1, a, ho, h2, _, h3, h4⟩ := hr.sl i _ e
      rw [hv] at h1
      cases h1
      cases h2
      exact ⟨a, ho, rfl, h3, h4⟩
theorem lst_of (hr : Rel K g H st σ) {t : T} {v : V} (ht : RT K g H σ t v) {xs : List W} (e : lstOf st t = some xs) : ∃ a vs, v = .ref a ∧ H a = some (.lst vs) ∧ RWs K g H xs vs := by
  have fin : (∃ a o, v = .ref a ∧ H a = some o ∧ NdR K g H (.lst xs) o) → ∃ a vs, v = .ref a ∧ H a = some (.lst vs) ∧ RWs K g H xs vs := by
    rintro ⟨a, o, h1, h2, h3⟩
    obtain ⟨vs, rfl, h4⟩ := ndr_lst h3
    exact ⟨a, vs, h1, h2, h4⟩
  cases t with
  | w w =>
    cases w with
    | lst ys =>
      cases (show RW K g H (.lst ys) v from ht) with
      | lst h1 h2 =>
        cases e
        exact ⟨_, _, rfl, h1.2, h2⟩
    | ref m =>
      unfold lstOf at e
      simp only at e
      split at e
      · rename_i ys q
        cases e
        exact fin (nd_of hr ht (Or.inl ⟨m, rfl, q⟩))
      · cases e
    | _ => cases e
  | new n =>
    cases n with
    | lst ys =>
      cases e
      exact fin (nd_of hr ht (Or.inr (Or.inl rfl)))
    | dic _ => cases e
  | loc i =>
    unfold lstOf at e
    simp only at e
    split at e
    · rename_i ys q
      cases e
      exact fin (nd_of hr ht (Or.inr (Or.inr ⟨i, rfl, Or.inl q⟩)))
    · rename_i ys q
      cases e
      exact fin (nd_of hr ht (Or.inr (Or.inr ⟨i, rfl, Or.inr q⟩)))
    · cases e
theorem dic_of (hr : Rel K g H st σ) {t : T} {v : V} (ht : RT K g H σ t v) {kvs : List (Key × W)} (e : dicOf st t = some kvs) :
    ∃ a hvs, v = .ref a ∧ H a = some (.dK hvs) ∧ kvs.map (·.1) = hvs.map (·.1) ∧ RWs K g H (kvs.map (·.2)) (hvs.map (·.2)) := by
  have fin : (∃ a o, v = .ref a ∧ H a = some o ∧ NdR K g H (.dic kvs) o) → ∃ a hvs, v = .ref a ∧ H a = some (.dK hvs) ∧ kvs.map (·.1) = hvs.map (·.1) ∧ RWs K g H (kvs.map (·.2)) (hvs.map (·.2)) := by
    rintro ⟨a, o, h1, h2, h3⟩
    obtain ⟨vs, rfl, h4⟩ := ndr_dic h3
    exact ⟨a, vs, h1, h2, h4⟩
  cases t with
  | w w =>
    cases w with
    | ref m =>
      unfold dicOf at e
      simp only at e
      split at e
      · rename_i ys q
        cases e
        exact fin (nd_of hr ht (Or.inl ⟨m, rfl, q⟩))
      · cases e
    | _ => cases e
  | new n =>
    cases n with
    | dic ys =>
      cases e
      exact fin (nd_of hr ht (Or.inr (Or.inl rfl)))
    | lst _ => cases e
  | loc i =>
    unfold dicOf at e
    simp only at e
    split at e
    · rename_i ys q
      cases e
      exact fin (nd_of hr ht (Or.inr (Or.inr ⟨i, rfl, Or.inl q⟩)))
    · rename_i ys q
      cases e
      exact fin (nd_of hr ht (Or.inr (Or.inr ⟨i, rfl, Or.inr q⟩)))
    · cases e
theorem seq_of (hr : Rel K g H st σ) {t : T} {v : V} (ht : RT K g H σ t v) {xs : List W} (e : seqOf st t = some xs) : ∃ a vs, v = .ref a ∧ (SqL K H a vs ∨ SqT K H a vs) ∧ RWs K g H xs vs := by
  have fin : lstOf st t = some xs → ∃ a vs, v = .ref a ∧ (SqL K H a vs ∨ SqT K H a vs) ∧ RWs K g H xs vs := fun q => by
    obtain ⟨a, vs, h1, h2, h3⟩ := lst_of hr ht q
    exact ⟨a, vs, h1, Or.inl (SqL.of h2), h3⟩
  unfold seqOf at e
  split at e
  · rename_i ys
    cases e
    cases (show RW K g H (.tup xs) v from ht) with
    | tup h1 h2 =>
      refine ⟨_, _, rfl, Or.inr ?_, h2⟩
      rcases h1 with ⟨_, h1⟩ | h1
      · exact SqT.of h1
      · exact h1 H
  · rename_i ys
    cases e
    cases (show RW K g H (.rol xs) v from ht) with
    | rol h1 h2 =>
      refine ⟨_, _, rfl, Or.inl ?_, h2⟩
      rcases h1 with ⟨_, h1⟩ | h1
      · exact Or.inl h1
      · exact h1 H
  · exact fin e
theorem rol_of {xs : List W} {v : V} (h : RW K g H (.rol xs) v) : ∃ a vs, v = .ref a ∧ SqL K H a vs ∧ RWs K g H xs vs := by
  cases h with
  | rol h1 h2 =>
    refine ⟨_, _, rfl, ?_, h2⟩
    rcases h1 with ⟨_, h1⟩ | h1
    · exact Or.inl h1
    · exact h1 H
theorem rw_tup {xs : List W} {v : V} (h : RW K g H (.tup xs) v) : ∃ a vs, v = .ref a ∧ SqT K H a vs ∧ RWs K g H xs vs := by
  cases h with
  | tup h1 h2 =>
    refine ⟨_, _, rfl, ?_, h2⟩
    rcases h1 with ⟨_, h1⟩ | h1
    · exact SqT.of h1
    · exact h1 H
end

@[simp] def eVar (i : Nat) (st : FS) : R T := match st.r[i]? with
  | some (.val w) => .ok (.w w) st
  | some (.own _) => .ok (.loc i) st
  | some (.bor _) => .ok (.loc i) st
  | _ => .stuck
@[simp] def eC (w : W) (st : FS) : R T := .ok (.w w) st
section
variable {X : Cx} {Wx : MX}
theorem ve_var {i : Nat} {e : Expr} (h : PE X e (tVar i)) : VE X Wx e (eVar i) := PE_imp h fun σ H Q ⟨g, st, hr, k⟩ => by
  unfold eVar at k
  split at k
  · rename_i w e1
    obtain ⟨o, h1, v, h2, h3⟩ := hr.sl i _ e1
    subst h2
    exact ⟨v, h1, ok_w k hr h3⟩
  · rename_i w e1
    obtain ⟨o, h1, a, ho, h2, h3, h4, h5⟩ := hr.sl i _ e1
    subst h2
    exact ⟨_, h1, k.here hr ⟨h1, fun _ z => nomatch z⟩⟩
  · rename_i w e1
    obtain ⟨o, h1, a, ho, h2, h3, h4, h5⟩ := hr.sl i _ e1
    subst h2
    exact ⟨_, h1, k.here hr ⟨h1, fun _ z => nomatch z⟩⟩
  · exact k.elim
def cV : W → Option V
  | .non => some .non
  | .bl b => some (.bl b)
  | .int i => some (.int i)
  | .str x => some (.str x)
  | .ty n => some (.ty n)
  | .adr a => some (.ref a)
  | _ => none
theorem rw_c {K : PySem.W.Frag} {g : G} {H : Hp} {w : W} {v : V} (h : cV w = some v) : RW K g H w v := by
  cases w <;> first
    | (cases h; constructor)
    | cases h
theorem ve_c {e : Expr} {w : W} {v : V} (h : PE X e (tC v)) (hv : cV w = some v := by rfl) : VE X Wx e (eC w) := PE_imp h fun σ H Q ⟨g, st, hr, k⟩ => ok_w k hr (rw_c hv)
end

@[simp] def eBin (op : T → T → FS → R T) (da db : FS → R T) (st : FS) : R T := (da st).bind fun t1 st1 => (db st1).bind fun t2 st2 => op t1 t2 st2
def OpS (K : PySem.W.Frag) (r : R2) (op : T → T → FS → R T) : Prop := ∀ (g : G) (H : Hp) (st : FS) (σ : L2.St) (Wx : MX) (Q : VK) (x y : V) (tx ty : T),
  Rel K g H st σ → RT K g H σ tx x → RT K g H σ ty y → Ok K Wx g H σ (ZT K σ g H) Q (op tx ty st) → r x y H Q
section
variable {X : Cx} {Wx : MX} {a b : Expr} {da db : FS → R T} {pos : Pos} {op : T → T → FS → R T} {r : R2}
theorem bin2 (hs : OpS X.K r op) {σ : L2.St} {H : Hp} {Q : VK} (h : lE X.K Wx (eBin op da db) σ H Q) : tOp r (lE X.K Wx da) (lE X.K Wx db) σ H Q := by
  obtain ⟨g, st, hr, k⟩ := h
  refine ⟨g, st, hr, Ok.seq k fun t1 st1 g1 H1 v1 _ e1 r1 z1 k1 => ?_⟩
  refine ⟨g1, st1, r1, Ok.seq (k1.rebaseT e1) fun t2 st2 g2 H2 v2 _ e2 r2 z2 k2 => ?_⟩
  exact hs g2 H2 st2 σ Wx Q v1 v2 t1 t2 r2 (z1.1.le e2) z2.1 (k2.rebaseT e2)
end
end MV

namespace MV
open PySem PySem.Spec PyProof.Rows L2
section
variable {K : PySem.W.Frag} {Wx : MX} {g : G} {H H0 : Hp} {σ : L2.St} {st : FS} {Q : VK}
theorem rwI {i : Int} {v : V} (h : RT K g H σ (.w (.int i)) v) : v = .int i := by
  cases (show RW K g H (.int i) v from h); rfl
theorem rwB {i : Bool} {v : V} (h : RT K g H σ (.w (.bl i)) v) : v = .bl i := by
  cases (show RW K g H (.bl i) v from h); rfl
theorem rwS {i : Str} {v : V} (h : RT K g H σ (.w (.str i)) v) : v = .str i := by
  cases (show RW K g H (.str i) v from h); rfl
theorem rwN {v : V} (h : RT K g H σ (.w .non) v) : v = .non := by
  cases (show RW K g H .non v from h); rfl
theorem rwT {xs : List W} {v : V} (h : RT K g H σ (.w (.tup xs)) v) : ∃ a vs, v = .ref a ∧ SqT K H a vs ∧ RWs K g H xs vs := rw_tup h
end

@[simp] def oAdd (tx ty : T) (st : FS) : R T := match tx, ty with
  | .w (.int i), .w (.int j) => .ok (.w (.int (i + j))) st
  | .w (.int i), .w (.bl k) => .ok (.w (.int (i + b2i k))) st
  | .w (.str a), .w (.str b) => if a.length + b.length ≤ sizeLine then .ok (.w (.str (a ++ b))) st else .stuck
  | .w (.tup xs), .w (.tup ys) => if xs.length + ys.length ≤ sizeLine then .ok (.w (.tup (xs ++ ys))) st else .stuck
  | tx, ty => match lstOf st tx, lstOf st ty with
    | some xs, some ys => if xs.length + ys.length ≤ sizeLine then .ok (.new (.lst (xs ++ ys))) st else .stuck
    | _, _ => .stuck
def rAddM (K : PySem.W.Frag) : R2 := fun x y H Q => rI0 (fun i j => V.int (i + j)) x y H Q ∨ (∃ i k, x = .int i ∧ y = .bl k ∧ Q (.int (i + b2i k)) H) ∨ (∃ i j, x = .str i ∧ y = .str j ∧ i.length + j.length ≤ sizeLine ∧ Q (.str (i ++ j)) H) ∨ rCatA K x y H Q ∨ rCat x y H Q
theorem op_addM {X : Cx} : OpR X (binaryOp .Add) (rAddM X.K) := op_add.or (op_add_ib.or (op_add_str.or (op_catA.or op_cat)))
theorem os_add {K : PySem.W.Frag} : OpS K (rAddM K) oAdd := by
  intro g H st σ Wx Q x y tx ty hr hx hy k
  unfold oAdd at k
  split at k
  · rw [rwI hx, rwI hy]
    exact Or.inl ⟨_, _, rfl, rfl, ok_w k hr (.int _)⟩
  · rw [rwI hx, rwB hy]
    exact Or.inr (Or.inl ⟨_, _, rfl, rfl, ok_w k hr (.int _)⟩)
  · rw [rwS hx, rwS hy]
    split at k
    · rename_i hz
      exact Or.inr (Or.inr (Or.inl ⟨_, _, rfl, rfl, hz, ok_w k hr (.str _)⟩))
    · exact k.elim
  · split at k
    · rename_i xs ys hz
      obtain ⟨a, vs, rfl, h1, h2⟩ := rwT hx
      obtain ⟨b, us, rfl, h3, h4⟩ := rwT hy
      refine Or.inr (Or.inr (Or.inr (Or.inl ⟨a, b, vs, us, rfl, rfl, h1, h3, by rw [← h2.length, ← h4.length]; exact hz, ?_, ?_, ?_⟩)))
      · intro e
        subst e
        cases h2
        exact ok_w k hr hy
      · intro e1 e2
        subst e2
        cases h4
        rw [List.append_nil] at k
        exact ok_w k hr hx
      · intro e1 e2 p hp
        exact ok_tup k hr hp (h2.append h4)
    · exact k.elim
  · split at k
    · rename_i xs ys e1 e2
      split at k
      · rename_i hz
        obtain ⟨a, vs, rfl, h1, h2⟩ := lst_of hr hx e1
        obtain ⟨b, us, rfl, h3, h4⟩ := lst_of hr hy e2
        refine Or.inr (Or.inr (Or.inr (Or.inr ⟨a, b, vs, us, rfl, rfl, h1, h3, by rw [← h2.length, ← h4.length]; exact hz, fun p hp => ?_⟩)))
        exact ok_new k hr hp (h2.append h4)
      · exact k.elim
    · exact k.elim

@[simp] def oSub (tx ty : T) (st : FS) : R T := match tx, ty with
  | .w (.int i), .w (.int j) => .ok (.w (.int (i - j))) st
  | _, _ => .stuck
theorem os_sub {K : PySem.W.Frag} : OpS K (rI0 fun i j => V.int (i - j)) oSub := by
  intro g H st σ Wx Q x y tx ty hr hx hy k
  unfold oSub at k
  split at k
  · rw [rwI hx, rwI hy]
    exact ⟨_, _, rfl, rfl, ok_w k hr (.int _)⟩
  · exact k.elim
def mulOk (i j : Int) : Prop := i.natAbs.log2 + j.natAbs.log2 < 1000000
instance (i j : Int) : Decidable (mulOk i j) := by unfold mulOk; infer_instance
theorem rep_rw {K : PySem.W.Frag} {g : G} {H : Hp} {xs : List W} {vs : List V} (h : RWs K g H xs vs) : ∀ n, RWs K g H (List.replicate n xs).flatten (List.replicate n vs).flatten
  | 0 => .nil
  | n + 1 => h.append (rep_rw h n)
theorem tuple_mul1 (l : Addr) (items : Array Value) (n : Nat) (dd : Option Addr) (sl : Array (Option Value)) (x : Int) (u : Tok) (c0 : (decide (x < -(2 ^ 63)) || decide (x ≥ 2 ^ 63)) = false) (c1 : (items.isEmpty || x == 1) = true) :
    Meets (Builtin.«tuple.__mul__» ⟨[.ref l, .int x u], []⟩) (fun _ R s => s.heap.get? l = some { cls := .type "tuple", dict := dd, data := .seq items n, slots := sl } ∧
      R (.ok (.ret (Value.ref l))) s) :=
  .of_wp fun prog w A R s h => by
    obtain ⟨hp, g, d, tk, os⟩ := s
    obtain ⟨hl, h⟩ := h
    have f1 := AutoSeq1.idx_int
    wp_walk using wpAny_loadPart' hl
    repeat (first
      | (refine wpAny_ite_false (decide_eq_false (by rw [c0]; exact Bool.false_ne_true)) ?_; wp_walk using wpAny_loadPart' hl)
      | (refine wpAny_ite_true (decide_eq_true c1) ?_; wp_walk using wpAny_loadPart' hl))
    exact ⟨_, rfl, h⟩
def rRep1 (K : PySem.W.Frag) : R2 := fun x y H Q => ∃ l xs, x = .ref l ∧ y = .int 1 ∧ SqT K H l xs ∧ Q (.ref l) H
theorem op_rep1 {X : Cx} : OpR X (binaryOp .Mult) (rRep1 X.K) := by
  intro pins s σ H x y v u Q I rx ry h
  obtain ⟨l, xs, rfl, rfl, hT, q⟩ := h
  cases rx
  obtain ⟨t, rfl⟩ := ry
  obtain ⟨its, r, ⟨⟨cls, dd, data, sl⟩, ho, hc, n, hd⟩, hs⟩ := I.tuple hT
  simp only at hc hd
  subst hc hd
  have c0 : (decide ((1 : Int) < -(2 ^ 63)) || decide ((1 : Int) ≥ 2 ^ 63)) = false := by decide
  have c1 : (its.toArray.isEmpty || (1 : Int) == 1) = true := by rw [show ((1 : Int) == 1) = true from rfl, Bool.or_true]
  exact wpAny_binaryOp_repeat_ref (T := "tuple") (U := "int") (by decide) ⟨_, ho, rfl⟩ (fun s' => typeIs_int s' 1 t) noFill_tuple_mul F.fills_int_mul F.slot_int_rmul repeat_tuple F.slot_int_index.lookup
    (call_meets F.slot_int_rmul (typeIs_int s 1 t) F.entry_int_rmul (F.args_int_rmul_2 _ _) (int_rmul_tuple 1 t l its.toArray n dd sl)
      ⟨ho, rfl, ⟨_, ho, rfl⟩, call_meets F.slot_tuple_mul ⟨_, ho, rfl⟩ F.entry_tuple_mul (F.args_tuple_mul_2 _ _) (tuple_mul1 l its.toArray n dd sl 1 t c0 c1) ⟨ho, ⟨.ref l, H, I, rfl, q⟩⟩⟩)
@[simp] def oMul (tx ty : T) (st : FS) : R T := match tx, ty with
  | .w (.int i), .w (.int j) => if mulOk i j then .ok (.w (.int (i * j))) st else .stuck
  | .w (.tup xs), .w (.int j) => if xs ≠ [] ∧ 1 ≤ j ∧ j ≤ 1000 ∧ xs.length ≤ 1000 then .ok (.w (.tup ((List.replicate j.toNat xs).flatten))) st else .stuck
  | tx, .w (.int j) => match lstOf st tx with
    | some xs => if -(2 ^ 63) ≤ j ∧ j < 2 ^ 63 ∧ xs.length * j.toNat ≤ sizeLine then .ok (.new (.lst ((List.replicate j.toNat xs).flatten))) st else .stuck
    | none => .stuck
  | _, _ => .stuck
def rMulM (K : PySem.W.Frag) : R2 := fun x y H Q => rI CMulW (fun i j => V.int (i * j)) x y H Q ∨ (rRep1 K x y H Q ∨ rRepT K x y H Q) ∨ rRep x y H Q
theorem op_mulM {X : Cx} : OpR X (binaryOp .Mult) (rMulM X.K) := op_mulW.or ((op_rep1.or op_repT).or op_rep)
theorem os_mul {K : PySem.W.Frag} : OpS K (rMulM K) oMul := by
  intro g H st σ Wx Q x y tx ty hr hx hy k
  unfold oMul at k
  split at k
  · rw [rwI hx, rwI hy]
    split at k
    · rename_i hz
      exact Or.inl ⟨_, _, rfl, rfl, hz, ok_w k hr (.int _)⟩
    · exact k.elim
  · rw [rwI hy]
    split at k
    · rename_i xs j hz
      obtain ⟨a, vs, rfl, h1, h2⟩ := rwT hx
      obtain ⟨z1, z2, z3, z4⟩ := hz
      by_cases h0 : j = 1
      · subst h0
        refine Or.inr (Or.inl (Or.inl ⟨a, vs, rfl, rfl, h1, ?_⟩))
        have e : (List.replicate (1 : Int).toNat xs).flatten = xs := by simp
        rw [e] at k
        exact ok_w k hr hx
      refine Or.inr (Or.inl (Or.inr ⟨a, j, vs, rfl, rfl, h1, ?_, by omega, z3, by rw [← h2.length]; exact z4, fun p hp => ok_tup k hr hp (rep_rw h2 _)⟩))
      rintro rfl
      cases h2
      exact z1 rfl
    · exact k.elim
  · rw [rwI hy]
    split at k
    · rename_i xs e1
      split at k
      · rename_i hz
        obtain ⟨a, vs, rfl, h1, h2⟩ := lst_of hr hx e1
        exact Or.inr (Or.inr ⟨a, _, vs, rfl, rfl, h1, hz.1, hz.2.1, by rw [← h2.length]; exact hz.2.2, fun p hp => ok_new k hr hp (rep_rw h2 _)⟩)
      · exact k.elim
    · exact k.elim
  · exact k.elim
@[simp] def oDiv (tx ty : T) (st : FS) : R T := match tx, ty with
  | .w (.int i), .w (.int j) => if 0 < j ∧ j.natAbs.log2 < 9000 then .ok (.w (.int (i / j))) st else .stuck
  | _, _ => .stuck
theorem os_div {K : PySem.W.Frag} : OpS K (rI CDivW fun i j => V.int (i / j)) oDiv := by
  intro g H st σ Wx Q x y tx ty hr hx hy k
  unfold oDiv at k
  split at k
  · rw [rwI hx, rwI hy]
    split at k
    · rename_i hz
      exact ⟨_, _, rfl, rfl, hz, ok_w k hr (.int _)⟩
    · exact k.elim
  · exact k.elim
@[simp] def oMod (tx ty : T) (st : FS) : R T := match tx, ty with
  | .w (.int i), .w (.int j) => if 0 < j then .ok (.w (.int (i % j))) st else .stuck
  | _, _ => .stuck
theorem os_mod {K : PySem.W.Frag} : OpS K (rI (fun _ j => 0 < j) fun i j => V.int (i % j)) oMod := by
  intro g H st σ Wx Q x y tx ty hr hx hy k
  unfold oMod at k
  split at k
  · rw [rwI hx, rwI hy]
    split at k
    · rename_i hz
      exact ⟨_, _, rfl, rfl, hz, ok_w k hr (.int _)⟩
    · exact k.elim
  · exact k.elim
@[simp] def oPow (tx ty : T) (st : FS) : R T := match tx, ty with
  | .w (.int i), .w (.int j) => if 0 ≤ j ∧ j ≤ 1000000 ∧ i.natAbs < 2 ^ 64 then .ok (.w (.int (i ^ j.toNat))) st else .stuck
  | _, _ => .stuck
theorem os_pow {K : PySem.W.Frag} : OpS K (rI CPow fun i j => V.int (i ^ j.toNat)) oPow := by
  intro g H st σ Wx Q x y tx ty hr hx hy k
  unfold oPow at k
  split at k
  · rw [rwI hx, rwI hy]
    split at k
    · rename_i hz
      exact ⟨_, _, rfl, rfl, hz, ok_w k hr (.int _)⟩
    · exact k.elim
  · exact k.elim
mutual
def W.dat : W → Option PyData
  | .non => some .none
  | .bl b => some (.bool b)
  | .int i => some (.int i)
  | .str x => some (.str x)
  | .tup xs => (dats xs).map .tuple
  | .lst xs => (dats xs).map .list
  | .rol xs => (dats xs).map .list
  | _ => none
def dats : List W → Option (List PyData)
  | [] => some []
  | x :: xs => (W.dat x).bind fun d => (dats xs).map (d :: ·)
end
def datOf (st : FS) (t : T) : Option PyData := match t with
  | .w (.ref n) => (lstOf st (.w (.ref n))).bind fun xs => (dats xs).map .list
  | .w w => w.dat
  | t => (lstOf st t).bind fun xs => (dats xs).map .list
section
variable {K : PySem.W.Frag} {g : G} {H : Hp}
mutual
theorem dp_of : ∀ {w : W} {v : V} {d : PyData}, RW K g H w v → w.dat = some d → Dp K H v d
  | _, _, _, .non, e => by cases e; exact .non
  | _, _, _, .bl b, e => by cases e; exact .bl b
  | _, _, _, .int i, e => by cases e; exact .int i
  | _, _, _, .str x, e => by cases e; exact .str x
  | _, _, _, .ty n, e => by cases e
  | _, _, _, .adr a, e => by cases e
  | _, _, _, .fn a, e => by cases e
  | _, _, _, .tud _ _, e => by cases e
  | _, _, _, .exn _ _ _ _, e => by cases e
  | _, _, _, .ref n h, e => by cases e
  | _, _, _, .dic _ _ _, e => by cases e
  | _, _, d, .tup (xs := xs) h hs, e => by
    simp only [W.dat, Option.map_eq_some_iff] at e
    obtain ⟨ds, e1, rfl⟩ := e
    refine .tup ?_ (dps_of hs e1)
    rcases h with ⟨_, h⟩ | h
    · exact SqT.of h
    · exact h H
  | _, _, d, .lst (xs := xs) h hs, e => by
    simp only [W.dat, Option.map_eq_some_iff] at e
    obtain ⟨ds, e1, rfl⟩ := e
    exact .lst (SqL.of h.2) (dps_of hs e1)
  | _, _, d, .rol (xs := xs) h hs, e => by
    simp only [W.dat, Option.map_eq_some_iff] at e
    obtain ⟨ds, e1, rfl⟩ := e
    refine .lst ?_ (dps_of hs e1)
    rcases h with ⟨_, h⟩ | h
    · exact Or.inl h
    · exact h H
theorem dps_of : ∀ {ws : List W} {vs : List V} {ds : List PyData}, RWs K g H ws vs → dats ws = some ds → DpAll K H vs ds
  | _, _, _, .nil, e => by cases e; exact .nil
  | _, _, _, .cons h hs, e => by
    simp only [dats, Option.bind_eq_some_iff, Option.map_eq_some_iff] at e
    obtain ⟨d, e1, ds, e2, rfl⟩ := e
    exact .cons (dp_of h e1) (dps_of hs e2)
end
theorem dp_lst {σ : L2.St} {st : FS} (hr : Rel K g H st σ) {t : T} {v : V} {d : PyData} (ht : RT K g H σ t v) (e : ((lstOf st t).bind fun xs => (dats xs).map PyData.list) = some d) : Dp K H v d := by
  simp only [Option.bind_eq_some_iff, Option.map_eq_some_iff] at e
  obtain ⟨xs, e1, ds, e2, rfl⟩ := e
  obtain ⟨a, vs, rfl, h1, h2⟩ := lst_of hr ht e1
  exact .lst (SqL.of h1) (dps_of h2 e2)
theorem dp_t {σ : L2.St} {st : FS} (hr : Rel K g H st σ) {t : T} {v : V} {d : PyData} (ht : RT K g H σ t v) (e : datOf st t = some d) : Dp K H v d := by
  unfold datOf at e
  split at e
  · exact dp_lst hr ht e
  · exact dp_of (show RW K g H _ v from ht) e
  · exact dp_lst hr ht e
end
@[simp] def scE : T → T → Option Bool
  | .w .non, .w .non => some true
  | .w .non, .w (.int _) => some false
  | .w (.int _), .w .non => some false
  | .w .non, .w (.bl _) => some false
  | .w (.bl _), .w .non => some false
  | .w .non, .w (.str _) => some false
  | .w (.str _), .w .non => some false
  | .w (.int i), .w (.int j) => some (i == j)
  | .w (.bl i), .w (.bl j) => some (i == j)
  | .w (.str i), .w (.str j) => some (i == j)
  | .w (.int _), .w (.str _) => some false
  | .w (.str _), .w (.int _) => some false
  | .w (.bl _), .w (.str _) => some false
  | .w (.str _), .w (.bl _) => some false
  | _, _ => none
def eqOk (d e : PyData) : Prop := d.canLay0 = true ∧ e.canLay0 = true ∧ min d.depth e.depth ≤ 64
instance (d e : PyData) : Decidable (eqOk d e) := by unfold eqOk; infer_instance
def rNeD2 (K : PySem.W.Frag) : R2 := fun x y H Q => ∃ d e, Dp K H x d ∧ Dp K H y e ∧ eqOk d e ∧ Q (.bl (!PyData.eqv d e)) H
theorem op_neD2 {X : Cx} (hu : X.A.units + 64 < cLine) : OpR X (compareOp .NotEq) (rNeD2 X.K) := by
  intro pins s σ H x y v u Q I rx ry h
  obtain ⟨d, e, hd, he, hk, q⟩ := h
  obtain ⟨as, r1⟩ := Dp.reads I d x v hd rx
  obtain ⟨bs, r2⟩ := Dp.reads I e y u he ry
  exact SeqAt.compareNe_reads r1 r2 hk.1 hk.2.1 (by have := hk.2.2; omega) ⟨.bl _, H, I, rfl, q⟩
def cEqD (neg : Bool) (tx ty : T) (st : FS) : R T := match datOf st tx, datOf st ty with
  | some d, some e => if eqOk d e then .ok (.w (.bl (if neg then !PyData.eqv d e else PyData.eqv d e))) st else .stuck
  | _, _ => .stuck
@[simp] def cEqN (neg : Bool) (tx ty : T) (st : FS) : R T := match scE tx ty with
  | some b => .ok (.w (.bl (if neg then !b else b))) st
  | none => cEqD neg tx ty st
theorem sce_of {K : PySem.W.Frag} {g : G} {H : Hp} {σ : L2.St} {tx ty : T} {x y : V} {b : Bool} (hx : RT K g H σ tx x) (hy : RT K g H σ ty y) (e : scE tx ty = some b) : scal x y = true ∧ decide (x = y) = b := by
  unfold scE at e
  split at e <;> first
    | (cases e; first | rw [rwN hx] | rw [rwI hx] | rw [rwB hx] | rw [rwS hx]
       first | rw [rwN hy] | rw [rwI hy] | rw [rwB hy] | rw [rwS hy]
       refine ⟨rfl, ?_⟩
       first
         | exact decide_eq_true rfl
         | (exact decide_eq_false fun z => nomatch z)
         | (rw [Bool.eq_iff_iff]; simp))
    | cases e
def rNeN (K : PySem.W.Frag) : R2 := fun x y H Q => rNe x y H Q ∨ rNeD2 K x y H Q
theorem op_neN {X : Cx} (hu : X.A.units + 64 < cLine) : OpR X (compareOp .NotEq) (rNeN X.K) := op_ne.or (op_neD2 hu)
theorem os_ne {K : PySem.W.Frag} : OpS K (rNeN K) (cEqN true) := by
  intro g H st σ Wx Q x y tx ty hr hx hy k
  unfold cEqN at k
  split at k
  · rename_i b e
    obtain ⟨h1, h2⟩ := sce_of hx hy e
    exact Or.inl ⟨h1, by rw [h2]; exact ok_w k hr (.bl _)⟩
  · unfold cEqD at k
    split at k
    · rename_i d e h1 h2
      split at k
      · rename_i hz
        exact Or.inr ⟨d, e, dp_t hr hx h1, dp_t hr hy h2, hz, ok_w k hr (.bl _)⟩
      · exact k.elim
    · exact k.elim
@[simp] def cOrd (p : Int → Int → Bool) (tx ty : T) (st : FS) : R T := match tx, ty with
  | .w (.int i), .w (.int j) => .ok (.w (.bl (p i j))) st
  | _, _ => .stuck
theorem os_ord {K : PySem.W.Frag} {p : Int → Int → Bool} : OpS K (rI0 fun i j => V.bl (p i j)) (cOrd p) := by
  intro g H st σ Wx Q x y tx ty hr hx hy k
  unfold cOrd at k
  split at k
  · rw [rwI hx, rwI hy]
    exact ⟨_, _, rfl, rfl, ok_w k hr (.bl _)⟩
  · exact k.elim
end MV

namespace MV
open PySem PySem.Spec PyProof.Rows L2

@[simp] def keyOf : T → Option Key
  | .w (.int i) => some (.inl i)
  | .w (.str x) => some (.inr x)
  | _ => none
def getK {α : Type} (kvs : List (Key × α)) (k : Key) : Option α := (kvs.find? fun kv => decide (kv.1 = k)).map (·.2)
def setK {α : Type} (kvs : List (Key × α)) (k : Key) (v : α) : List (Key × α) :=
  if (kvs.any fun kv => decide (kv.1 = k)) = true then kvs.map (fun kv => if kv.1 = k then (kv.1, v) else kv) else kvs ++ [(k, v)]
section
variable {K : PySem.W.Frag} {g : G} {H : Hp} {σ : L2.St} {st : FS}
theorem key_of_t {t : T} {v : V} {k : Key} (ht : RT K g H σ t v) (e : keyOf t = some k) : v = kV k := by
  unfold keyOf at e
  split at e
  · cases e; exact rwI ht
  · cases e; exact rwS ht
  · cases e
theorem get_rel : ∀ {kvs : List (Key × W)} {hvs : List (Key × V)} {k : Key}, kvs.map (·.1) = hvs.map (·.1) → RWs K g H (kvs.map (·.2)) (hvs.map (·.2)) →
    (getK kvs k = none ∧ valV hvs k = none) ∨ ∃ w v, getK kvs k = some w ∧ valV hvs k = some v ∧ RW K g H w v
  | [], [], k, _, _ => Or.inl ⟨rfl, rfl⟩
  | [], _ :: _, k, h, _ => by cases h
  | _ :: _, [], k, h, _ => by cases h
  | p :: kvs, q :: hvs, k, h, hs => by
    simp only [List.map_cons, List.cons.injEq] at h
    cases hs with
    | cons h1 h2 =>
      by_cases e : p.1 = k
      · refine Or.inr ⟨p.2, q.2, ?_, ?_, h1⟩
        · unfold getK
          simp [List.find?_cons, e]
        · exact valV_pos (by rw [← h.1]; exact e)
      · have e' : ¬ q.1 = k := by rw [← h.1]; exact e
        have a1 : getK (p :: kvs) k = getK kvs k := by unfold getK; simp [List.find?_cons, e]
        rw [a1, valV_neg e']
        exact get_rel h.2 h2
theorem any_rel {k : Key} : ∀ {kvs : List (Key × W)} {hvs : List (Key × V)}, kvs.map (·.1) = hvs.map (·.1) → (kvs.any fun kv => decide (kv.1 = k)) = hvs.any fun kv => decide (kv.1 = k)
  | [], [], _ => rfl
  | [], _ :: _, h => by cases h
  | _ :: _, [], h => by cases h
  | p :: kvs, q :: hvs, h => by
    simp only [List.map_cons, List.cons.injEq] at h
    simp only [List.any_cons]
    rw [h.1, any_rel h.2]
theorem map_set_rel {k : Key} {w : W} {v : V} (hw : RW K g H w v) : ∀ {kvs : List (Key × W)} {hvs : List (Key × V)}, kvs.map (·.1) = hvs.map (·.1) → RWs K g H (kvs.map (·.2)) (hvs.map (·.2)) →
    (kvs.map fun kv => if kv.1 = k then (kv.1, w) else kv).map (·.1) = (hvs.map fun kv => if kv.1 = k then (kv.1, v) else kv).map (·.1) ∧
    RWs K g H ((kvs.map fun kv => if kv.1 = k then (kv.1, w) else kv).map (·.2)) ((hvs.map fun kv => if kv.1 = k then (kv.1, v) else kv).map (·.2))
  | [], [], _, _ => ⟨rfl, .nil⟩
  | [], _ :: _, h, _ => by cases h
  | _ :: _, [], h, _ => by cases h
  | p :: kvs, q :: hvs, h, hs => by
    simp only [List.map_cons, List.cons.injEq] at h
    cases hs with
    | cons h1 h2 =>
      obtain ⟨i1, i2⟩ := map_set_rel hw h.2 h2
      simp only [List.map_cons]
      by_cases e : p.1 = k
      · have e' : q.1 = k := by rw [← h.1]; exact e
        rw [if_pos e, if_pos e']
        exact ⟨by simp only [List.cons.injEq]; exact ⟨h.1, i1⟩, .cons hw i2⟩
      · have e' : ¬ q.1 = k := by rw [← h.1]; exact e
        rw [if_neg e, if_neg e']
        exact ⟨by simp only [List.cons.injEq]; exact ⟨h.1, i1⟩, .cons h1 i2⟩
theorem set_rel {k : Key} {w : W} {v : V} (hw : RW K g H w v) {kvs : List (Key × W)} {hvs : List (Key × V)} (h : kvs.map (·.1) = hvs.map (·.1)) (hs : RWs K g H (kvs.map (·.2)) (hvs.map (·.2))) :
    (setK kvs k w).map (·.1) = (putK hvs k v).map (·.1) ∧ RWs K g H ((setK kvs k w).map (·.2)) ((putK hvs k v).map (·.2)) := by
  unfold setK putK
  rw [any_rel (k := k) h]
  split
  · exact map_set_rel hw h hs
  · simp only [List.map_append, List.map_cons, List.map_nil]
    exact ⟨by rw [h], hs.append (.cons hw .nil)⟩
theorem len_rel {kvs : List (Key × W)} {hvs : List (Key × V)} (h : kvs.map (·.1) = hvs.map (·.1)) : kvs.length = hvs.length := by
  have := congrArg List.length h
  simpa using this
end

def itemsOf (st : FS) (t : T) : Option (List PyData) := (seqOf st t).bind dats
def strIn (a b : Str) : Bool := !(Builtin.Str.occurrences b a 0 b.length 1).isEmpty
def inOk (d : PyData) (ds : List PyData) : Prop := d.canLay0 = true ∧ PyData.canLayAll0 ds = true ∧ min (PyData.depthAll ds) d.depth ≤ 64
instance (d : PyData) (ds : List PyData) : Decidable (inOk d ds) := by unfold inOk; infer_instance
@[simp] def dicR (st : FS) : T → Option (List (Key × W))
  | .w (.dic ks ws) => some (ks.zip ws)
  | t => dicOf st t
theorem dicr_of {K : PySem.W.Frag} {g : G} {H : Hp} {σ : L2.St} {st : FS} (hr : Rel K g H st σ) {t : T} {v : V} (ht : RT K g H σ t v) {kvs : List (Key × W)} (e : dicR st t = some kvs) :
    ∃ a hvs, v = .ref a ∧ Rd H a (.dK hvs) ∧ kvs.map (·.1) = hvs.map (·.1) ∧ RWs K g H (kvs.map (·.2)) (hvs.map (·.2)) := by
  unfold dicR at e
  split at e
  · cases e
    rename_i ks ws
    cases (show RW K g H (.dic ks ws) v from ht) with
    | dic h1 h2 h3 =>
      obtain ⟨od, _, h4⟩ := h1
      have hl := h3.length
      rw [List.length_map] at hl
      refine ⟨_, _, rfl, Or.inr ⟨od, h4⟩, ?_, ?_⟩
      · rw [List.map_fst_zip (by rw [h2, List.length_map]; omega)]
        exact h2
      · rw [List.map_snd_zip (by rw [h2, List.length_map]; omega)]
        exact h3
  · obtain ⟨a, hvs, h1, h2, h3⟩ := dic_of hr ht e
    exact ⟨a, hvs, h1, Or.inl h2, h3⟩
theorem DGet.rd {H : Hp} {a : Addr} {kvs : List (Key × V)} {k : Key} (e : Rd H a (.dK kvs)) : DGet H a (kV k) (valV kvs k) := .inl ⟨kvs, k, e, rfl, rfl⟩
@[simp] def oIn (neg : Bool) (tx ty : T) (st : FS) : R T := match dicR st ty with
  | some kvs => (match keyOf tx with
    | some k => .ok (.w (.bl ((getK kvs k).isSome != neg))) st
    | none => .stuck)
  | none => (match tx, ty with
    | .w (.str a), .w (.str b) => .ok (.w (.bl (strIn a b != neg))) st
    | tx, ty => (match datOf st tx, itemsOf st ty with
      | some d, some ds => if inOk d ds then .ok (.w (.bl ((ds.any fun z => PyData.eqv z d) != neg))) st else .stuck
      | _, _ => .stuck))
def atW {α : Type} (xs : List α) (i : Int) : Option α := atI xs i
@[simp] def oIx (tx ty : T) (st : FS) : R T := match dicR st tx with
  | some kvs => (match keyOf ty with
    | some k => (match getK kvs k with
      | some w => .ok (.w w) st
      | none => .stuck)
    | none => .stuck)
  | none => (match tx, ty with
    | .w (.str z), .w (.int i) => if z.length ≤ sizeLine then (match atW z.cps.toList i with
      | some c => .ok (.w (.str ⟨#[c]⟩)) st
      | none => .stuck) else .stuck
    | tx, .w (.int i) => (match seqOf st tx with
      | some xs => (match atW xs i with
        | some w => .ok (.w w) st
        | none => .stuck)
      | none => .stuck)
    | _, _ => .stuck)
def rDix : R2 := fun x y H Q => ∃ a v, x = .ref a ∧ DGet H a y (some v) ∧ Q v H
def rIxM (K : PySem.W.Frag) : R2 := fun x y H Q => rDix x y H Q ∨ rIx K x y H Q
section
variable {X : Cx}
theorem ix_dic (hu : X.A.units + 1 < cLine) : IxR X rDix := by
  intro value slice pins s σ H x y v u Q I rx ry h hs
  obtain ⟨a, z, rfl, hg, q⟩ := h
  cases rx
  exact tail_any (dict_typeIs I hg) PySem.F.slot_dict_getitem.lookup (d_getItem hu I hg ry fun w' s3 I3 rw' => ⟨z, H, I3, rw', q⟩) hs
theorem ix_M (hu : X.A.units + 1 < cLine) : IxR X (rIxM X.K) := (ix_dic hu).or ix_seq
end
theorem atI_rel {K : PySem.W.Frag} {g : G} {H : Hp} {xs : List W} {vs : List V} {i : Int} {w : W} (h : RWs K g H xs vs) (e : atI xs i = some w) : ∃ v, atI vs i = some v ∧ RW K g H w v := by
  unfold atI at e ⊢
  rw [← h.length]
  cases q : ixN xs.length i with
  | none => rw [q] at e; cases e
  | some j =>
    rw [q] at e
    simp only [Option.bind_some] at e ⊢
    exact h.get e
theorem os_ix {K : PySem.W.Frag} : OpS K (rIxM K) oIx := by
  intro g H st σ Wx Q x y tx ty hr hx hy k
  unfold oIx at k
  split at k
  · rename_i kvs e1
    split at k
    · rename_i key e2
      split at k
      · rename_i w e3
        obtain ⟨a, hvs, rfl, h1, h2, h3⟩ := dicr_of hr hx e1
        rcases get_rel (k := key) h2 h3 with ⟨a1, a2⟩ | ⟨w', v, a1, a2, a3⟩
        · rw [a1] at e3; cases e3
        · rw [a1] at e3
          cases e3
          rw [key_of_t hy e2]
          exact Or.inl ⟨a, v, rfl, by rw [← a2]; exact DGet.rd h1, ok_w k hr a3⟩
      · exact k.elim
    · exact k.elim
  · split at k
    · rw [rwS hx, rwI hy]
      split at k
      · rename_i hz
        split at k
        · rename_i c e1
          exact Or.inr (Or.inr (Or.inr ⟨_, _, c, rfl, rfl, hz, e1, ok_w k hr (.str _)⟩))
        · exact k.elim
      · exact k.elim
    · rw [rwI hy]
      split at k
      · rename_i xs e1
        split at k
        · rename_i w e2
          obtain ⟨a, vs, rfl, h1, h2⟩ := seq_of hr hx e1
          obtain ⟨z, e3, h3⟩ := atI_rel h2 e2
          rcases h1 with h1 | h1
          · exact Or.inr (Or.inl ⟨a, vs, _, z, rfl, rfl, h1, e3, ok_w k hr h3⟩)
          · exact Or.inr (Or.inr (Or.inl ⟨a, vs, _, z, rfl, rfl, h1, e3, ok_w k hr h3⟩))
        · exact k.elim
      · exact k.elim
    · exact k.elim
end MV

namespace MV
open PySem PySem.Spec PyProof.Rows L2

@[simp] def eO (o : Option (FS → R T)) (st : FS) : R (Option Int) := match o with
  | none => .ok none st
  | some d => (d st).bind fun t st1 => match t with
    | .w (.int i) => .ok (some i) st1
    | _ => .stuck
def lO (K : PySem.W.Frag) (Wx : MX) : Option (FS → R T) → TO
  | none => tNoPart
  | some d => tPart (lE K Wx d)
def cutW (xs : List W) (lo hi : Option Int) : List W := (xs.drop (HT.sIx xs.length 0 lo)).take (HT.sIx xs.length xs.length hi - HT.sIx xs.length 0 lo)
@[simp] def oSl (t : T) (lo hi : Option Int) (st : FS) : R T := match t with
  | .w (.str z) => if z.length ≤ sizeLine then .ok (.w (.str (cutS z lo hi))) st else .stuck
  | .w (.tup xs) => .ok (.w (.tup (cutW xs lo hi))) st
  | .w (.rol xs) => .ok (.new (.lst (cutW xs lo hi))) st
  | t => match lstOf st t with
    | some xs => .ok (.new (.lst (cutW xs lo hi))) st
    | none => .stuck
@[simp] def eSl (de : FS → R T) (lo hi : Option (FS → R T)) (st : FS) : R T := (de st).bind fun t st1 => (eO lo st1).bind fun l st2 => (eO hi st2).bind fun h st3 => oSl t l h st3
def rSlM (K : PySem.W.Frag) : V → Option Int → Option Int → Hp → VK → Prop := fun x lo hi H Q => rSlS x lo hi H Q ∨ rSlA K x lo hi H Q ∨ rSlL K x lo hi H Q
theorem sl_M {X : Cx} : SlR X (rSlM X.K) := sl_str.or (sl_tupA.or sl_list)
section
variable {K : PySem.W.Frag} {Wx : MX} {g : G} {H : Hp} {σ : L2.St} {st : FS}
theorem cut_rel {xs : List W} {vs : List V} (h : RWs K g H xs vs) (lo hi : Option Int) : RWs K g H (cutW xs lo hi) (cutV vs lo hi) := by
  unfold cutW cutV
  rw [h.length]
  exact (h.drop _).take _
theorem lO_step {γ δ : Type} {o : Option (FS → R T)} {f : Option Int → FS → R γ} {Z2 : G → Hp → γ → δ → Prop} {Q2 : δ → Hp → Prop} {Qm : Option Int → Hp → Prop} (hr : Rel K g H st σ) (h : Ok K Wx g H σ Z2 Q2 ((eO o st).bind f))
    (k : ∀ l st1 g1 H1, Le g H g1 H1 → Rel K g1 H1 st1 σ → Ok K Wx g H σ Z2 Q2 (f l st1) → Qm l H1) : lO K Wx o σ H Qm := by
  cases o with
  | none => exact k none st g H (Le.refl _ _) hr h
  | some d =>
    have h' := h
    unfold eO at h'
    simp only [R.bind_assoc] at h'
    refine ⟨g, st, hr, Ok.seq h' fun t st1 g1 H1 v _ e1 r1 z1 k1 => ?_⟩
    split at k1
    · have hv := rwI z1.1
      exact ⟨_, hv, k _ _ _ _ e1 r1 k1⟩
    · exact k1.elim
theorem whole_cut (xs : List W) (lo hi : Option Int) (h : HT.sIx xs.length 0 lo = 0 ∧ HT.sIx xs.length xs.length hi = xs.length) : cutW xs lo hi = xs := by
  unfold cutW
  rw [h.1, h.2]
  simp
end
section
variable {X : Cx} {Wx : MX}
theorem ve_slice {e : Expr} {lo hi : Option Expr} {de : FS → R T} {dl dh : Option (FS → R T)} {p2 pos : Pos} (he : VE X Wx e de) (hl : PO X lo (lO X.K Wx dl)) (hh : PO X hi (lO X.K Wx dh)) :
    VE X Wx (.Subscript e (.Slice lo hi none p2) pos) (eSl de dl dh) := PE_imp (pe_slice sl_M he hl hh) fun σ H Q ⟨g, st, hr, k⟩ => by
  refine ⟨g, st, hr, Ok.seq k fun t st1 g1 H1 v1 _ e1 r1 z1 k1 => ?_⟩
  refine lO_step r1 (k1.rebaseT e1) fun l st2 g2 H2 e2 r2 k2 => ?_
  refine lO_step r2 (k2.rebaseT e2) fun h st3 g3 H3 e3 r3 k3 => ?_
  have k4 := k3.rebaseT e3
  have ht := (z1.1.le e2).le e3
  unfold oSl at k4
  split at k4
  · rw [rwS ht]
    split at k4
    · rename_i hz
      exact Or.inl ⟨_, rfl, hz, ok_w k4 r3 (.str _)⟩
    · exact k4.elim
  · rename_i xs
    obtain ⟨a, vs, rfl, h1, h2⟩ := rwT ht
    refine Or.inr (Or.inl ⟨a, vs, rfl, h1, fun hw => ?_, fun _ p hp => ok_tup k4 r3 hp (cut_rel h2 _ _)⟩)
    rw [whole_cut _ _ _ (by rw [h2.length]; exact hw)] at k4
    exact ok_w k4 r3 ht
  · rename_i xs
    obtain ⟨a, vs, rfl, h1, h2⟩ := rol_of ht
    exact Or.inr (Or.inr ⟨a, vs, rfl, h1, fun p hp => ok_new k4 r3 hp (cut_rel h2 _ _)⟩)
  · split at k4
    · rename_i xs e4
      obtain ⟨a, vs, rfl, h1, h2⟩ := lst_of r3 ht e4
      exact Or.inr (Or.inr ⟨a, vs, rfl, SqL.of h1, fun p hp => ok_new k4 r3 hp (cut_rel h2 _ _)⟩)
    · exact k4.elim
end

@[simp] def truT (t : T) (st : FS) : Option Bool := match t with
  | .w .non => some false
  | .w (.bl b) => some b
  | .w (.int i) => some (i != 0)
  | .w (.str z) => if z.length ≤ sizeLine then some ((z.length : Int) != 0) else none
  | .w (.tup xs) => some (!xs.isEmpty)
  | .w (.rol xs) => some (!xs.isEmpty)
  | t => match lstOf st t with
    | some xs => some (!xs.isEmpty)
    | none => (match dicOf st t with
      | some kvs => some (!kvs.isEmpty)
      | none => none)
section
variable {K : PySem.W.Frag} {Wx : MX} {g : G} {H : Hp} {σ : L2.St} {st : FS}
theorem isEmpty_rel {xs : List W} {vs : List V} (h : RWs K g H xs vs) : (!vs.isEmpty) = !xs.isEmpty := by
  cases h <;> rfl
theorem tru_of (hr : Rel K g H st σ) {t : T} {v : V} {b : Bool} (ht : RT K g H σ t v) (e : truT t st = some b) : TruV K v H b := by
  unfold truT at e
  split at e
  · cases e; rw [rwN ht] <;> rfl
  · cases e; rw [rwB ht] <;> rfl
  · cases e; rw [rwI ht] <;> rfl
  · split at e
    · rename_i hz
      cases e
      rw [rwS ht]
      exact ⟨hz, rfl⟩
    · cases e
  · cases e
    obtain ⟨a, vs, rfl, h1, h2⟩ := rwT ht
    exact Or.inr (Or.inl ⟨vs, h1, (isEmpty_rel h2).symm⟩)
  · cases e
    obtain ⟨a, vs, rfl, h1, h2⟩ := rol_of ht
    exact Or.inl ⟨vs, h1, (isEmpty_rel h2).symm⟩
  · split at e
    · rename_i xs e1
      cases e
      obtain ⟨a, vs, rfl, h1, h2⟩ := lst_of hr ht e1
      exact Or.inl ⟨vs, SqL.of h1, (isEmpty_rel h2).symm⟩
    · split at e
      · rename_i kvs e1
        cases e
        obtain ⟨a, hvs, rfl, h1, h2, h3⟩ := dic_of hr ht e1
        refine Or.inr (Or.inr ⟨hvs, h1, ?_⟩)
        have := len_rel h2
        cases kvs <;> cases hvs <;> first | rfl | (simp at this)
      · cases e
end
@[simp] def bT (de : FS → R T) (st : FS) : R Bool := (de st).bind fun t st1 => match truT t st1 with
  | some b => .ok b st1
  | none => .stuck
@[simp] def bAnd (d e : FS → R Bool) (st : FS) : R Bool := (d st).bind fun b st1 => if b = true then e st1 else .ok false st1
@[simp] def eOr (d e : FS → R T) (st : FS) : R T := (d st).bind fun t st1 => match truT t st1 with
  | some b => if b = true then .ok t st1 else e st1
  | none => .stuck
section
variable {K : PySem.W.Frag} {Wx : MX} {g : G} {H : Hp} {σ : L2.St} {st : FS}
theorem okB_here {Q : Bool → Hp → Prop} {b : Bool} (h : Ok K Wx g H σ ZB Q (.ok b st)) (hr : Rel K g H st σ) : Q b H := h.here hr rfl
variable {X : Cx} {a b : Expr} {da db : FS → R T} {ca cb : FS → R Bool} {pos : Pos} {rest : List Expr} {t u : TE}
theorem vb_t (ha : VE X Wx a da) (he : ∀ whole, isTrue a X.env whole = (do let v ← whole; standAt a.pos; holding [v] (truthy v))) : VB X Wx a (bT da) := PT_imp (pt_truth ha he) fun σ H Q ⟨g, st, hr, k⟩ => by
  refine ⟨g, st, hr, Ok.seq k fun t st1 g1 H1 v1 _ e1 r1 z1 k1 => ?_⟩
  split at k1
  · rename_i b e
    exact ⟨b, tru_of r1 z1.1 e, okB_here (k1.rebase e1) r1⟩
  · exact k1.elim
def VBw (X : Cx) (Wx : MX) (e : Expr) (d : FS → R Bool) : Prop := PW X e (lB X.K Wx d)
theorem vbw_and1 (ha : VB X Wx a ca) : VBw X Wx (.BoolOp .And [a] pos) ca := pw_and1 ha
theorem vbw_and (ha : VB X Wx a ca) (hb : VBw X Wx (.BoolOp .And (b :: rest) pos) cb) : VBw X Wx (.BoolOp .And (a :: b :: rest) pos) (bAnd ca cb) := PW_imp (pw_and ha hb) fun σ H Q ⟨g, st, hr, k⟩ => by
  refine ⟨g, st, hr, Ok.seq k fun c st1 g1 H1 v1 _ e1 r1 z1 k1 => ?_⟩
  cases z1
  split at k1
  · rename_i hc
    rw [if_pos hc]
    exact ⟨g1, st1, r1, k1.rebase e1⟩
  · rename_i hc
    rw [if_neg hc]
    exact okB_here (k1.rebase e1) r1
theorem vb_w (h : VBw X Wx a ca) : VB X Wx a ca := PW.pt h
theorem ve_or1 (ha : VE X Wx a da) : VE X Wx (.BoolOp .Or [a] pos) da := pe_one ha
theorem ve_or (ha : VE X Wx a da) (hb : VE X Wx (.BoolOp .Or (b :: rest) pos) db) : VE X Wx (.BoolOp .Or (a :: b :: rest) pos) (eOr da db) := PE_imp (pe_orT ha hb) fun σ H Q ⟨g, st, hr, k⟩ => by
  refine ⟨g, st, hr, Ok.seq k fun t st1 g1 H1 v1 _ e1 r1 z1 k1 => ?_⟩
  split at k1
  · rename_i c e
    refine ⟨c, tru_of r1 z1.1 e, ?_⟩
    split at k1
    · rename_i hc
      rw [if_pos hc]
      exact (k1.rebase e1).here r1 z1
    · rename_i hc
      rw [if_neg hc]
      exact ⟨g1, st1, r1, k1.rebaseT e1⟩
  · exact k1.elim
@[simp] def toB (d : FS → R T) (st : FS) : R Bool := (d st).bind fun t st1 => match t with
  | .w (.bl b) => .ok b st1
  | _ => .stuck
theorem ve_bin {op : Operator} {o : T → T → FS → R T} {r : R2} (ho : OpR X (binaryOp op) r) (hs : OpS X.K r o) (ha : VE X Wx a da) (hb : VE X Wx b db) : VE X Wx (.BinOp a op b pos) (eBin o da db) := PE_imp (pe_op ho ha hb) fun σ H Q k => bin2 hs k
theorem ve_cmp {op : CmpOp} {o : T → T → FS → R T} {r : R2} (ho : OpR X (compareOp op) r) (hs : OpS X.K r o) (ha : VE X Wx a da) (hb : VE X Wx b db) (hm : behindInMarks op b = false) : VE X Wx (.Compare a [op] [b] pos) (eBin o da db) := PE_imp (pe_cmpR ho ha hb hm) fun σ H Q k => bin2 hs k
theorem vb_cmp {op : CmpOp} {o : T → T → FS → R T} {r : R2} (ho : OpR X (compareOp op) r) (hs : OpS X.K r o) (ha : VE X Wx a da) (hb : VE X Wx b db) (hm : behindInMarks op b = false) : VB X Wx (.Compare a [op] [b] pos) (toB (eBin o da db)) := PT_imp (pt_cmpR ho ha hb hm) fun σ H Q ⟨g, st, hr, k⟩ => by
  refine bin2 (Wx := Wx) hs ⟨g, st, hr, Ok.seq k fun t st1 g1 H1 v1 _ e1 r1 z1 k1 => ?_⟩
  split at k1
  · exact ⟨_, rwB z1.1, okB_here (k1.rebase e1) r1⟩
  · exact k1.elim
theorem ve_ix {r : R2} {o : T → T → FS → R T} (ho : IxR X r) (hs : OpS X.K r o) (ha : VE X Wx a da) (hb : VE X Wx b db) (hx : PlainIx b) : VE X Wx (.Subscript a b pos) (eBin o da db) := PE_imp (pe_ix ho ha hb hx) fun σ H Q k => bin2 hs k
end
@[simp] def eChain (o o' : T → T → FS → R T) (da db dc : FS → R T) (st : FS) : R T := (da st).bind fun t1 st1 => (db st1).bind fun t2 st2 => (o t1 t2 st2).bind fun t st3 => match t with
  | .w (.bl b) => if b = true then (dc st3).bind fun t4 st4 => o' t2 t4 st4 else .ok (.w (.bl false)) st3
  | _ => .stuck
def OpB (K : PySem.W.Frag) (r : R2) (op : T → T → FS → R T) : Prop := ∀ (g : G) (H : Hp) (st : FS) (σ : L2.St) (x y : V) (tx ty : T) (Q : VK) (b : Bool) (st' : FS),
  Rel K g H st σ → RT K g H σ tx x → RT K g H σ ty y → op tx ty st = .ok (.w (.bl b)) st' → st' = st ∧ (Q (.bl b) H → r x y H Q)
theorem ob_ord {K : PySem.W.Frag} {p : Int → Int → Bool} : OpB K (rI0 fun i j => V.bl (p i j)) (cOrd p) := by
  intro g H st σ x y tx ty Q b st' hr hx hy e
  unfold cOrd at e
  split at e
  · cases e
    rw [rwI hx, rwI hy]
    exact ⟨rfl, fun q => ⟨_, _, rfl, rfl, q⟩⟩
  · cases e
theorem ob_only {p : Int → Int → Bool} {tx ty : T} {st : FS} : (∃ b, cOrd p tx ty st = .ok (.w (.bl b)) st) ∨ cOrd p tx ty st = .stuck := by
  unfold cOrd
  split
  · exact Or.inl ⟨_, rfl⟩
  · exact Or.inr rfl
section
variable {X : Cx} {Wx : MX} {a b c : Expr} {da db dc : FS → R T} {pos : Pos} {p p' : Int → Int → Bool} {op op' : CmpOp}
theorem chain3 {σ : L2.St} {H : Hp} {Q : VK} (k : lE X.K Wx (eChain (cOrd p) (cOrd p') da db dc) σ H Q) : tChain (rI0 fun i j => V.bl (p i j)) (rI0 fun i j => V.bl (p' i j)) (lE X.K Wx da) (lE X.K Wx db) (lE X.K Wx dc) σ H Q := by
  obtain ⟨g, st, hr, k⟩ := k
  refine ⟨g, st, hr, Ok.seq k fun t1 st1 g1 H1 v1 _ e1 r1 z1 k1 => ?_⟩
  refine ⟨g1, st1, r1, Ok.seq (k1.rebaseT e1) fun t2 st2 g2 H2 v2 _ e2 r2 z2 k2 => ?_⟩
  rcases ob_only (p := p) (tx := t1) (ty := t2) (st := st2) with ⟨b, eb⟩ | eb
  · rw [eb] at k2
    obtain ⟨_, hq⟩ := ob_ord g2 H2 st2 σ v1 v2 t1 t2 (fun z H3 => ∃ k, z = V.bl k ∧ (if k = true then lE X.K Wx dc σ H3 fun w' H4 => rI0 (fun i j => V.bl (p' i j)) v2 w' H4 Q else Q (.bl false) H3)) b st2 r2 (z1.1.le e2) z2.1 eb
    refine hq ⟨b, rfl, ?_⟩
    have k3 : Ok X.K Wx g1 H1 σ (ZT X.K σ g1 H1) Q (if b = true then (dc st2).bind fun t4 st4 => cOrd p' t2 t4 st4 else .ok (.w (.bl false)) st2) := k2
    split at k3
    · rename_i hb
      rw [if_pos hb]
      refine ⟨g2, st2, r2, Ok.seq (k3.rebaseT e2) fun t4 st4 g4 H4 v4 _ e4 r4 z4 k4 => ?_⟩
      exact os_ord g4 H4 st4 σ Wx Q v2 v4 t2 t4 r4 (z2.1.le e4) z4.1 (k4.rebaseT e4)
    · rename_i hb
      rw [if_neg hb]
      exact ok_w (k3.rebaseT e2) r2 (.bl _)
  · rw [eb] at k2
    exact k2.elim
theorem ve_chain (ho : OpR X (compareOp op) (rI0 fun i j => V.bl (p i j))) (ho' : OpR X (compareOp op') (rI0 fun i j => V.bl (p' i j))) (ha : VE X Wx a da) (hb : VE X Wx b db) (hc : VE X Wx c dc) (hm : lastMarks [op, op'] [b, c] = false := by with_unfolding_all rfl) :
    VE X Wx (.Compare a [op, op'] [b, c] pos) (eChain (cOrd p) (cOrd p') da db dc) := PE_imp (pe_chain ho ho' ha hb hc hm) fun σ H Q k => chain3 k
end
end MV

namespace MV
open PySem PySem.Spec PyProof.Rows L2

@[simp] def frz0 (t : T) (st : FS) : R W := match t with
  | .w w => .ok w st
  | .new (.lst xs) => .ok (.lst xs) st
  | _ => .stuck
@[simp] def frz (t : T) (st : FS) : R W := match t with
  | .w w => .ok w st
  | .new (.lst xs) => .ok (.lst xs) st
  | .loc i => (match st.r[i]? with
    | some (.own (.lst xs)) => .ok (.lst xs) (st.setr i (.val (.lst xs)))
    | _ => .stuck)
  | _ => .stuck
@[simp] def eF (d : FS → R T) (st : FS) : R W := (d st).bind frz
@[simp] def eAN (st : FS) : R (List W) := .ok [] st
@[simp] def eAC (d : FS → R W) (ds : FS → R (List W)) (st : FS) : R (List W) := (d st).bind fun w st1 => (ds st1).bind fun ws st2 => .ok (w :: ws) st2
@[simp] def eTup (ds : FS → R (List W)) (st : FS) : R T := (ds st).bind fun ws st1 => if ws.length ≤ sizeLine then .ok (.w (.tup ws)) st1 else .stuck
@[simp] def eLst (ds : FS → R (List W)) (st : FS) : R T := (ds st).bind fun ws st1 => if ws.length ≤ sizeLine then .ok (.new (.lst ws)) st1 else .stuck
section
variable {K : PySem.W.Frag} {Wx : MX} {g g0 : G} {H H0 : Hp} {σ : L2.St} {st : FS}
theorem frz_go {xs : List W} {v : V} {Q : VK} (e : Le g0 H0 g H) (hr : Rel K g H st σ) (hz : ZT K σ g0 H0 g H (.new (.lst xs)) v)
    (k : ∀ g', Le g0 H0 g' H → Rel K g' H st σ → RW K g' H (.lst xs) v → Sim g H g' H → Q v H) : Q v H := by
  obtain ⟨⟨a, o, rfl, h1, h2, h3⟩, hf⟩ := hz
  obtain ⟨vs, rfl, h4⟩ := ndr_lst h3
  have s := Sim.tag (H := H) (t := .fz) h1
  exact k (g.set a .fz) (e.tag (hf _ rfl a rfl)) (hr.sim s) (.lst ⟨G.set_same, h2⟩ (h4.keep s.fzk)) s
theorem frz_slot {i : Nat} {xs : List W} {v : V} {Q : VK} (e : Le g0 H0 g H) (hr : Rel K g H st σ) (hv : σ[i]? = some (some v)) (q : st.r[i]? = some (.own (.lst xs)))
    (k : ∀ g', Le g0 H0 g' H → Rel K g' H (st.setr i (.val (.lst xs))) σ → RW K g' H (.lst xs) v → Q v H) : Q v H := by
  obtain ⟨o, h1, a, ho, h2, h3, h4, h5⟩ := hr.sl i _ q
  rw [hv] at h1
  cases h1
  cases h2
  obtain ⟨vs, rfl, h6⟩ := ndr_lst h5
  have hf : Free g H a := fun o e => by rw [h3]; exact ⟨(fun z => nomatch z), (fun z => nomatch z), (fun z => nomatch z)⟩
  have fk : Fzk g H (g.set a .fz) H := ⟨fun _ _ => rfl, Nat.le_refl _, fun b u hb hu => by
    have ne : b ≠ a := fun z => by subst z; rw [h3] at hb; cases hb
    rw [G.set_ne ne]
    exact ⟨hb, hu⟩⟩
  have hw : RW K (g.set a .fz) H (.lst xs) (.ref a) := .lst ⟨G.set_same, h4⟩ (h6.keep fk)
  refine k (g.set a .fz) (e.tag (hf.back e)) ⟨?_, fun j y ey => ?_, hr.ob.n, fun j b hb => ?_⟩ hw
  · show (st.r.set i _).length = σ.length
    rw [List.length_set]
    exact hr.len
  · have e' : (st.r.set i (.val (.lst xs)))[j]? = some y := ey
    by_cases hj : j = i
    · subst hj
      rw [List.getElem?_set_self (List.getElem?_eq_some_iff.mp q).1] at e'
      cases e'
      exact ⟨_, hv, _, rfl, hw⟩
    · rw [List.getElem?_set_ne (Ne.symm hj)] at e'
      obtain ⟨u, q1, q2⟩ := hr.sl j y e'
      refine ⟨u, q1, ?_⟩
      cases y with
      | no => trivial
      | val w =>
        obtain ⟨v, q3, q4⟩ := q2
        exact ⟨v, q3, q4.keep fk⟩
      | own n =>
        obtain ⟨b, ho, q3, q4, q5, q6⟩ := q2
        have ne : b ≠ a := fun z => by subst z; rw [h3] at q4; cases q4; exact hj rfl
        exact ⟨b, ho, q3, (G.set_ne ne).trans q4, q5, q6.keep fk⟩
      | bor n =>
        obtain ⟨b, ho, q3, q4, q5, q6⟩ := q2
        have ne : b ≠ a := fun z => by subst z; rw [h3] at q4; cases q4
        exact ⟨b, ho, q3, (G.set_ne ne).trans q4, q5, q6.keep fk⟩
  · obtain ⟨q1, q2⟩ := hr.ob.ob j b hb
    have ne : g.m j ≠ a := fun z => by rw [z, h3] at q1; cases q1
    refine ⟨(G.set_ne (g := g) (t := .fz) ne).trans q1, ?_⟩
    exact q2.keep fk fun _ z => z
variable {X : Cx} {e : Expr} {es : List Expr} {d : FS → R T} {dw : FS → R W} {ds : FS → R (List W)} {pos : Pos}
theorem vw_of (h : VE X Wx e d) : VW X Wx e (eF d) := PE_imp h fun σ H Q ⟨g, st, hr, k⟩ => by
  refine ⟨g, st, hr, Ok.seq k fun t st1 g1 H1 v1 _ e1 r1 z1 k1 => ?_⟩
  unfold frz at k1
  split at k1
  · exact (k1.rebase e1).here r1 z1.1
  · exact frz_go (Q := Q) e1 r1 z1 fun g' e' r' w' _ => (show ∀ g H v, _ → _ → _ → _ from k1) g' H1 v1 e' r' w'
  · split at k1
    · rename_i q
      exact frz_slot (Q := Q) e1 r1 z1.1 q fun g' e' r' w' => (show ∀ g H v, _ → _ → _ → _ from k1) g' H1 v1 e' r' w'
    · exact k1.elim
  · exact k1.elim
theorem va_nil : VA X Wx [] eAN := PA_imp pa_nil fun σ H Q ⟨g, st, hr, k⟩ => k.here hr .nil
theorem va_cons (h : VW X Wx e dw) (hs : VA X Wx es ds) (hx : starEach (e :: es) X.env = (false, eval e X.env) :: starEach es X.env := by rfl) : VA X Wx (e :: es) (eAC dw ds) := PA_imp (pa_cons h hs hx) fun σ H Q ⟨g, st, hr, k⟩ => by
  refine ⟨g, st, hr, Ok.seq k fun w st1 g1 H1 v1 _ e1 r1 z1 k1 => ?_⟩
  refine ⟨g1, st1, r1, Ok.seq (k1.rebase e1) fun ws st2 g2 H2 vs _ e2 r2 z2 k2 => ?_⟩
  exact (k2.rebase e2).here r2 (.cons (RW.keep e2.fzk z1) z2)
theorem ve_tup {k1 : Nat} (hs : VA X Wx es ds) : VE X Wx (.Tuple es k1 pos) (eTup ds) := PE_imp (pe_tup hs) fun σ H Q ⟨g, st, hr, k⟩ => by
  refine ⟨g, st, hr, Ok.seq k fun ws st1 g1 H1 vs _ e1 r1 z1 k1 => ?_⟩
  split at k1
  · rename_i hz
    exact ⟨by rw [← RWs.length z1]; exact hz, fun p hp => ok_tup (k1.rebaseT e1) r1 hp z1⟩
  · exact k1.elim
theorem ve_lst (hs : VA X Wx es ds) : VE X Wx (.List es pos) (eLst ds) := PE_imp (pe_lst hs) fun σ H Q ⟨g, st, hr, k⟩ => by
  refine ⟨g, st, hr, Ok.seq k fun ws st1 g1 H1 vs _ e1 r1 z1 k1 => ?_⟩
  split at k1
  · rename_i hz
    exact ⟨by rw [← RWs.length z1]; exact hz, fun p hp => ok_new (k1.rebaseT e1) r1 hp z1⟩
  · exact k1.elim
end

inductive Ar where
  | w (w : W) | loc (i : Nat) | bor (n : Nd) | own (n : Nd)
def ZA (K : PySem.W.Frag) (σ : L2.St) (g0 : G) (H0 : Hp) (g : G) (H : Hp) : Ar → V → Prop
  | .w w, v => RW K g H w v
  | .loc i, v => σ[i]? = some (some v)
  | .bor n, v => ∃ a o, v = .ref a ∧ g.tg a = .no ∧ H a = some o ∧ NdR K g H n o
  | .own n, v => ∃ a o, v = .ref a ∧ g.tg a = .tmp ∧ H a = some o ∧ NdR K g H n o ∧ Free g0 H0 a
abbrev ZAs (K : PySem.W.Frag) (σ : L2.St) (g0 : G) (H0 : Hp) (g : G) (H : Hp) : List Ar → List V → Prop := Paired (ZA K σ g0 H0 g H)
def lAr (K : PySem.W.Frag) (Wx : MX) (d : FS → R (List Ar)) : TA := fun σ H Q => ∃ g st, Rel K g H st σ ∧ Ok K Wx g H σ (ZAs K σ g H) Q (d st)
def VAr (X : Cx) (Wx : MX) (es : List Expr) (d : FS → R (List Ar)) : Prop := PA X es (lAr X.K Wx d)
@[simp] def aNil (st : FS) : R (List Ar) := .ok [] st
@[simp] def aF (d : FS → R T) (st : FS) : R Ar := (eF d st).bind fun w st1 => .ok (.w w) st1
@[simp] def aL (d : FS → R T) (st : FS) : R Ar := (d st).bind fun t st1 => match t with
  | .w w => .ok (.w w) st1
  | .loc i => .ok (.loc i) st1
  | .new n => .ok (.bor n) st1
@[simp] def aO (d : FS → R T) (st : FS) : R Ar := (d st).bind fun t st1 => match t with
  | .new n => .ok (.own n) st1
  | _ => .stuck
@[simp] def aCons (d : FS → R Ar) (ds : FS → R (List Ar)) (st : FS) : R (List Ar) := (d st).bind fun t st1 => (ds st1).bind fun ts st2 => .ok (t :: ts) st2
def lA1 (K : PySem.W.Frag) (Wx : MX) (d : FS → R Ar) : TE := fun σ H Q => ∃ g st, Rel K g H st σ ∧ Ok K Wx g H σ (ZA K σ g H) Q (d st)
def VA1 (X : Cx) (Wx : MX) (e : Expr) (d : FS → R Ar) : Prop := PE X e (lA1 X.K Wx d)
section
variable {K : PySem.W.Frag} {Wx : MX} {g g0 g1 g2 : G} {H H0 H1 H2 : Hp} {σ : L2.St} {st : FS}
theorem ZA.mono (e : Le g0 H0 g1 H1) {t : Ar} {v : V} (h : ZA K σ g1 H1 g H t v) : ZA K σ g0 H0 g H t v := by
  cases t with
  | own n =>
    obtain ⟨a, o, h1, h2, h3, h4, h5⟩ := h
    exact ⟨a, o, h1, h2, h3, h4, h5.back e⟩
  | _ => exact h
theorem ZA.le (e : Le g H g2 H2) {t : Ar} {v : V} (h : ZA K σ g0 H0 g H t v) : ZA K σ g0 H0 g2 H2 t v := by
  cases t with
  | own n =>
    obtain ⟨a, o, h1, h2, h3, h4, h5⟩ := h
    obtain ⟨q1, q2⟩ := e.no a o (Or.inr h2) h3
    exact ⟨a, o, h1, q1.trans h2, q2, h4.keep e.fzk, h5⟩
  | bor n =>
    obtain ⟨a, o, h1, h2, h3, h4⟩ := h
    obtain ⟨q1, q2⟩ := e.no a o (Or.inl h2) h3
    exact ⟨a, o, h1, q1.trans h2, q2, h4.keep e.fzk⟩
  | w w => exact RW.keep e.fzk h
  | loc i => exact h
variable {X : Cx} {e : Expr} {es : List Expr} {d : FS → R T} {da : FS → R Ar} {ds : FS → R (List Ar)} {pos : Pos}
theorem va_f (h : VE X Wx e d) : VA1 X Wx e (aF d) := PE_imp (vw_of h) fun σ H Q ⟨g, st, hr, k⟩ => by
  refine ⟨g, st, hr, Ok.seq k fun w st1 g1 H1 v1 _ e1 r1 z1 k1 => ?_⟩
  exact (k1.rebase e1).here r1 z1
theorem va_l (h : VE X Wx e d) : VA1 X Wx e (aL d) := PE_imp h fun σ H Q ⟨g, st, hr, k⟩ => by
  refine ⟨g, st, hr, Ok.seq k fun t st1 g1 H1 v1 _ e1 r1 z1 k1 => ?_⟩
  split at k1
  · exact (k1.rebase e1).here r1 z1.1
  · exact (k1.rebase e1).here r1 z1.1
  · rename_i n _
    obtain ⟨⟨a, o, rfl, h1, h2, h3⟩, hf⟩ := z1
    have s := Sim.tag (H := H1) (t := .no) h1
    exact k1 (g1.set a .no) H1 _ (e1.tag (hf _ rfl a rfl)) (r1.sim s) ⟨a, o, rfl, G.set_same, h2, h3.keep s.fzk⟩
theorem va_o (h : VE X Wx e d) : VA1 X Wx e (aO d) := PE_imp h fun σ H Q ⟨g, st, hr, k⟩ => by
  refine ⟨g, st, hr, Ok.seq k fun t st1 g1 H1 v1 _ e1 r1 z1 k1 => ?_⟩
  split at k1
  · rename_i n _
    obtain ⟨⟨a, o, rfl, h1, h2, h3⟩, hf⟩ := z1
    exact k1 g1 H1 _ e1 r1 ⟨a, o, rfl, h1, h2, h3, hf _ rfl a rfl⟩
  · exact k1.elim
theorem vr_nil : VAr X Wx [] aNil := PA_imp pa_nil fun σ H Q ⟨g, st, hr, k⟩ => k.here hr .nil
theorem vr_cons (h : VA1 X Wx e da) (hs : VAr X Wx es ds) (hx : starEach (e :: es) X.env = (false, eval e X.env) :: starEach es X.env := by rfl) : VAr X Wx (e :: es) (aCons da ds) := PA_imp (pa_cons h hs hx) fun σ H Q ⟨g, st, hr, k⟩ => by
  refine ⟨g, st, hr, Ok.seq k fun t st1 g1 H1 v1 _ e1 r1 z1 k1 => ?_⟩
  refine ⟨g1, st1, r1, Ok.seqR k1 e1 fun ts st2 g2 H2 vs _ e2 r2 z2 k2 => ?_⟩
  exact k2 g2 H2 _ (e1.trans e2) r2 (.cons (z1.le e2) (L2.Paired.mapP z2 fun _ _ q => q.mono e1))
end
end MV

namespace MV
open PySem PySem.Spec PyProof.Rows L2

def RTF (K : PySem.W.Frag) (g : G) (H : Hp) : T → V → Prop
  | .w w, v => RW K g H w v
  | .new n, v => ∃ a o, v = .ref a ∧ g.tg a = .tmp ∧ H a = some o ∧ NdR K g H n o
  | .loc _, _ => False
def OkF (cv : Ec → Value) (K : PySem.W.Frag) (g0 : G) (H0 : Hp) (Q : VK) (E : XK) : R T → Prop
  | .ok t st => ∀ g H v, Le g0 H0 g H → ObsR K g H st.s → RTF K g H t v → Fre g0 H0 t v → Q v H
  | .ex c fs st => ∀ g H d, Le g0 H0 g H → ObsR K g H st.s → XF K g H d fs → E (cv c) d H
  | .stuck => False
def SlRs (K : PySem.W.Frag) (g : G) (H : Hp) : Nat → List Sl → List V → Prop
  | _, [], [] => True
  | j, s :: ss, v :: vs => SltR K g H j s (some v) ∧ SlRs K g H (j + 1) ss vs
  | _, _, _ => False
abbrev Fn := List Sl → List Ob → R T
def spF (cv : Ec → Value) (K : PySem.W.Frag) (n : Nat) (f : Fn) : Sp := fun vs H Q E => vs.length = n ∧ ∃ g s sls, ObsR K g H s ∧ SlRs K g H 0 sls vs ∧ OkF cv K g H Q E (f sls s)

@[simp] def slotOf (st : FS) : Ar → Option Sl
  | .w w => some (.val w)
  | .loc i => (match st.r[i]? with
    | some (.own n) => some (.bor n)
    | some (.bor n) => some (.bor n)
    | _ => none)
  | .bor n => some (.bor n)
  | .own n => some (.own n)
@[simp] def slotsOf (st : FS) : List Ar → Option (List Sl)
  | [] => some []
  | a :: as => (slotOf st a).bind fun s => (slotsOf st as).map (s :: ·)
def isOwn : Ar → Bool
  | .own _ => true
  | _ => false
def owns (as : List Ar) : Nat := (as.filter isOwn).length
def backR (st : FS) : R T → R T
  | .ok (.loc _) _ => .stuck
  | .ok t st2 => .ok t ⟨st.r, st2.s⟩
  | .ex c fs st2 => .ex c fs ⟨st.r, st2.s⟩
  | .stuck => .stuck
@[simp] def eCall (f : Fn) (dv : List W) (das : FS → R (List Ar)) (st : FS) : R T := (das st).bind fun as st1 => match slotsOf st1 as with
  | some sls => if owns as ≤ 1 then backR st1 (f (sls ++ dv.map .val) st1.s) else .stuck
  | none => .stuck

section
variable {K : PySem.W.Frag} {Wx : MX} {g g0 g1 : G} {H H0 H1 : Hp} {σ : L2.St} {st : FS}
def clr (g : G) : G := { g with tg := fun a => match g.tg a with
  | .slot _ => .no
  | t => t }
theorem clr_of {a : Addr} {t : Tag} (h : g.tg a = t) (ht : ∀ i, t ≠ .slot i) : (clr g).tg a = t := by
  show (match g.tg a with
    | .slot _ => Tag.no
    | t => t) = t
  rw [h]
  cases t <;> first
    | rfl
    | exact absurd rfl (ht _)
theorem clr_slot {a : Addr} {i : Nat} (h : g.tg a = .slot i) : (clr g).tg a = .no := by
  show (match g.tg a with
    | .slot _ => Tag.no
    | t => t) = .no
  rw [h]
def back (g : G) (H : Hp) (g' : G) : G := { g' with tg := fun a => match g.tg a, H a with
  | .slot i, some _ => .slot i
  | _, _ => (match g'.tg a with
    | .slot _ => .no
    | t => t) }
theorem back_slot {g' : G} {a : Addr} {i : Nat} {o : HO} (h : g.tg a = .slot i) (e : H a = some o) : (back g H g').tg a = .slot i := by
  show (match g.tg a, H a with
    | .slot i, some _ => Tag.slot i
    | _, _ => (match g'.tg a with
      | .slot _ => .no
      | t => t)) = .slot i
  rw [h, e]
theorem back_of {g' : G} {a : Addr} {t : Tag} (h : (∀ i, g.tg a ≠ .slot i) ∨ H a = none) (e : g'.tg a = t) (ht : ∀ i, t ≠ .slot i) : (back g H g').tg a = t := by
  have q : (match g'.tg a with
      | .slot _ => Tag.no
      | t => t) = t := by
    rw [e]
    cases t <;> first
      | rfl
      | exact absurd rfl (ht _)
  show (match g.tg a, H a with
    | .slot i, some _ => Tag.slot i
    | _, _ => (match g'.tg a with
      | .slot _ => .no
      | t => t)) = t
  rcases h with h | h
  · cases r : g.tg a with
    | slot i => exact absurd r (h i)
    | _ => exact q
  · rw [h]
    cases g.tg a <;> exact q
end
section
variable {K : PySem.W.Frag} {Wx : MX} {g g0 g1 gc g' : G} {H H0 H1 H' : Hp} {σ : L2.St} {st : FS}
structure Gc (g0 : G) (H0 : Hp) (g : G) (H : Hp) (gc : G) : Prop where
  n : gc.n = g.n
  m : gc.m = g.m
  at_ : ∀ a, (g.tg a = .tmp ∧ Free g0 H0 a ∧ ∃ i, gc.tg a = .slot i) ∨ gc.tg a = (clr g).tg a
theorem Gc.of (c : Gc g0 H0 g H gc) {a : Addr} {t : Tag} (h : g.tg a = t) (ht : ∀ i, t ≠ .slot i) (hp : t ≠ .tmp) : gc.tg a = t := by
  rcases c.at_ a with ⟨h1, _⟩ | h1
  · exact absurd (h.symm.trans h1) hp
  · exact h1.trans (clr_of h ht)
theorem Gc.slot (c : Gc g0 H0 g H gc) {a : Addr} {i : Nat} (h : g.tg a = .slot i) : gc.tg a = .no := by
  rcases c.at_ a with ⟨h1, _⟩ | h1
  · rw [h] at h1; cases h1
  · exact h1.trans (clr_slot h)
theorem Gc.fzk (c : Gc g0 H0 g H gc) : Fzk g H gc H := ⟨fun j _ => by rw [c.m], Nat.le_of_eq c.n.symm, fun a o h e => ⟨c.of h (fun _ z => nomatch z) (fun z => nomatch z), e⟩⟩
theorem Gc.obs (c : Gc g0 H0 g H gc) {s : List Ob} (h : ObsR K g H s) : ObsR K gc H s := ⟨c.n.trans h.n, fun j b hb => by
  obtain ⟨h1, h2⟩ := h.ob j b hb
  rw [c.m]
  refine ⟨c.of h1 (fun _ z => nomatch z) (fun z => nomatch z), ?_⟩
  exact h2.keep c.fzk fun _ z => z⟩
theorem back_tag (c : Gc g0 H0 g H gc) (e : Le gc H g' H') {a : Addr} {t : Tag} (h : g'.tg a = t) (ht : ∀ i, t ≠ .slot i) (hn : t ≠ .no) : (back g H g').tg a = t := by
  refine back_of ?_ h ht
  by_cases q : ∃ i, g.tg a = .slot i
  · obtain ⟨i, q⟩ := q
    cases r : H a with
    | none => exact Or.inr rfl
    | some o =>
      obtain ⟨h1, _⟩ := e.no a o (Or.inl (c.slot q)) r
      rw [h1, c.slot q] at h
      exact absurd h.symm hn
  · exact Or.inl fun i z => q ⟨i, z⟩
theorem back_fzk (c : Gc g0 H0 g H gc) (e : Le gc H g' H') : Fzk g' H' (back g H g') H' := ⟨fun _ _ => rfl, Nat.le_refl _, fun a o h q => ⟨back_tag c e h (fun _ z => nomatch z) (fun z => nomatch z), q⟩⟩
theorem back_keep (c : Gc g0 H0 g H gc) (e : Le gc H g' H') : Fzk g H (back g H g') H' := ⟨fun j hj => (e.m j (by rw [c.n]; exact hj)).trans (by rw [c.m]), by have := e.n; rw [c.n] at this; exact this, fun a o h q => by
  have h1 := c.of h (fun _ z => nomatch z) (fun z => nomatch z)
  obtain ⟨h2, h3⟩ := e.fz a o h1 q
  exact ⟨back_tag c e h2 (fun _ z => nomatch z) (fun z => nomatch z), h3⟩⟩
theorem back_le (c : Gc g0 H0 g H gc) (e0 : Le g0 H0 g H) (e : Le gc H g' H') : Le g0 H0 (back g H g') H' := by
  refine ⟨Nat.le_trans e0.n (back_keep c e).2.1, fun j hj => ((back_keep c e).1 j (Nat.lt_of_lt_of_le hj e0.n)).trans (e0.m j hj), fun a o h q => ?_, fun a o h q => ?_, fun a h => e0.dom a (e.dom a h)⟩
  · obtain ⟨h1, h2⟩ := e0.fz a o h q
    exact (back_keep c e).2.2 a o h1 h2
  · obtain ⟨h1, h2⟩ := e0.no a o h q
    have hs : ∀ i, g.tg a ≠ .slot i := fun i z => by
      rw [h1] at z
      rcases h with h | h <;> rw [h] at z <;> cases z
    have h3 : gc.tg a = g.tg a := by
      rcases c.at_ a with ⟨_, hf, _⟩ | h3
      · rcases h with h | h
        · exact absurd h (hf o q).2.1
        · exact absurd h (hf o q).2.2
      · exact h3.trans (clr_of rfl hs)
    obtain ⟨h4, h5⟩ := e.no a o (by rw [h3, h1]; exact h) h2
    refine ⟨(back_of (Or.inl hs) (h4.trans h3) hs).trans h1, h5⟩
theorem back_rel (c : Gc g0 H0 g H gc) (e : Le gc H g' H') (hr : Rel K g H st σ) {s' : List Ob} (ho : ObsR K g' H' s') : Rel K (back g H g') H' ⟨st.r, s'⟩ σ := by
  refine ⟨hr.len, fun i x hx => ?_, ho.n, fun j b hb => ?_⟩
  · obtain ⟨o, h1, h2⟩ := hr.sl i x hx
    refine ⟨o, h1, ?_⟩
    cases x with
    | no => trivial
    | val w =>
      obtain ⟨v, h3, h4⟩ := h2
      exact ⟨v, h3, h4.keep (back_keep c e)⟩
    | own n =>
      obtain ⟨a, ho', h3, h4, h5, h6⟩ := h2
      obtain ⟨h7, h8⟩ := e.no a ho' (Or.inl (c.slot h4)) h5
      exact ⟨a, ho', h3, back_slot h4 h5, h8, h6.keep (back_keep c e)⟩
    | bor n =>
      obtain ⟨a, ho', h3, h4, h5, h6⟩ := h2
      have h9 := c.of h4 (fun _ z => nomatch z) (fun z => nomatch z)
      obtain ⟨h7, h8⟩ := e.no a ho' (Or.inl h9) h5
      exact ⟨a, ho', h3, back_of (Or.inl fun i z => by rw [h4] at z; cases z) (h7.trans h9) (fun _ z => nomatch z), h8, h6.keep (back_keep c e)⟩
  · obtain ⟨h1, h2⟩ := ho.ob j b hb
    refine ⟨back_tag c e h1 (fun _ z => nomatch z) (fun z => nomatch z), ?_⟩
    exact h2.keep (back_fzk c e) fun _ z => z
theorem back_free (c : Gc g0 H0 g H gc) (e0 : Le g0 H0 g H) {a : Addr} (h : Free gc H a) : Free g0 H0 a := fun o q => by
  have go : ∀ t, (t = .fz ∨ t = .no ∨ t = .tmp) → g0.tg a = t → False := fun t ht z => by
    have h1 : g.tg a = t ∧ H a = some o := by
      rcases ht with rfl | rfl | rfl
      · exact e0.fz a o z q
      · have := e0.no a o (Or.inl z) q
        exact ⟨this.1.trans z, this.2⟩
      · have := e0.no a o (Or.inr z) q
        exact ⟨this.1.trans z, this.2⟩
    rcases c.at_ a with ⟨h2, h3, _⟩ | h2
    · rcases ht with rfl | rfl | rfl
      · exact (h3 o q).1 z
      · exact (h3 o q).2.1 z
      · exact (h3 o q).2.2 z
    · have h4 : gc.tg a = t := h2.trans (clr_of h1.1 (fun i w => by rcases ht with rfl | rfl | rfl <;> cases w))
      obtain ⟨q1, q2, q3⟩ := h o h1.2
      rcases ht with rfl | rfl | rfl
      · exact q1 h4
      · exact q2 h4
      · exact q3 h4
  exact ⟨fun z => go _ (Or.inl rfl) z, fun z => go _ (Or.inr (Or.inl rfl)) z, fun z => go _ (Or.inr (Or.inr rfl)) z⟩
theorem okf_of {cv : Ec → Value} {f : Fn} {sls : List Sl} {Q : VK} (c : Gc g0 H0 g H gc) (e0 : Le g0 H0 g H) (hr : Rel K g H st σ) (k : Ok K Wx g0 H0 σ (ZT K σ g0 H0) Q (backR st (f sls st.s))) : OkF cv K gc H Q (WE (toWX cv Wx) σ) (f sls st.s) := by
  cases q : f sls st.s with
  | ok t st2 =>
    rw [q] at k
    cases t with
    | loc i => exact k.elim
    | w w => exact fun g' H' v e ho ht hf => k (back g H g') H' v (back_le c e0 e) (back_rel c e hr ho) ⟨RW.keep (back_fzk c e) ht, fun _ z => nomatch z⟩
    | new n =>
      intro g' H' v e ho ht hf
      obtain ⟨a, o, rfl, h1, h2, h3⟩ := ht
      exact k (back g H g') H' _ (back_le c e0 e) (back_rel c e hr ho) ⟨⟨a, o, rfl, back_tag c e h1 (fun _ z => nomatch z) (fun z => nomatch z), h2, h3.keep (back_fzk c e)⟩, fun m z b w => back_free c e0 (hf m z b w)⟩
  | ex cl fs st2 =>
    rw [q] at k
    intro g' H' d e ho hx
    refine ⟨cl, rfl, k (back g H g') H' d (back_le c e0 e) (back_rel c e hr ho) ?_⟩
    rcases hx with hx | ⟨a, vs, h1, h2, h3, h4⟩
    · exact Or.inl hx
    · exact Or.inr ⟨a, vs, h1, (back_fzk c e).2.2 _ _ h2.1 h2.2, h3, h4.keep (back_fzk c e)⟩
  | stuck => rw [q] at k; exact k
theorem own_one : ∀ {as : List Ar}, owns as ≤ 1 → (∀ (i : Nat) (n : Nd), as[i]? ≠ some (Ar.own n)) ∨ ∃ (j : Nat) (n : Nd), as[j]? = some (Ar.own n) ∧ ∀ (i : Nat) (m : Nd), as[i]? = some (Ar.own m) → i = j
  | [], _ => Or.inl fun i n z => by simp at z
  | a :: as, h => by
    cases a with
    | own n =>
      have h0 : owns as = 0 := by
        have : owns (.own n :: as) = owns as + 1 := rfl
        omega
      refine Or.inr ⟨0, n, rfl, fun i m z => ?_⟩
      cases i with
      | zero => rfl
      | succ i =>
        exfalso
        have hm : Ar.own m ∈ as := List.mem_of_getElem? (by simpa using z)
        have : Ar.own m ∈ as.filter isOwn := List.mem_filter.mpr ⟨hm, rfl⟩
        have hl := List.length_pos_of_mem this
        have : owns as = (as.filter isOwn).length := rfl
        omega
    | _ =>
      rcases own_one (as := as) h with q | ⟨j, n, q1, q2⟩
      · refine Or.inl fun i n z => ?_
        cases i with
        | zero => simp at z
        | succ i => exact q i n (by simpa using z)
      · refine Or.inr ⟨j + 1, n, by simpa using q1, fun i m z => ?_⟩
        cases i with
        | zero => simp at z
        | succ i => rw [q2 i m (by simpa using z)]
theorem slrs_of (c : Gc g0 H0 g H gc) (hr : Rel K g H st σ) : ∀ {as : List Ar} {vs : List V} {sls : List Sl} (j : Nat), ZAs K σ g0 H0 g H as vs → slotsOf st as = some sls →
    (∀ (i : Nat) (n : Nd) (a : Addr), as[i]? = some (Ar.own n) → vs[i]? = some (V.ref a) → gc.tg a = .slot (j + i)) → SlRs K gc H j sls vs
  | [], _, sls, j, .nil, e, _ => by cases e; trivial
  | a :: as, v :: vs, sls, j, .cons h hs, e, ho => by
    simp only [slotsOf, Option.bind_eq_some_iff, Option.map_eq_some_iff] at e
    obtain ⟨s, e1, ss, e2, rfl⟩ := e
    refine ⟨?_, slrs_of c hr (j + 1) hs e2 fun i n b q1 q2 => by rw [Nat.add_assoc, Nat.add_comm 1 i]; exact ho (i + 1) n b (by simpa using q1) (by simpa using q2)⟩
    cases a with
    | w w =>
      cases e1
      exact ⟨v, rfl, RW.keep c.fzk h⟩
    | loc i =>
      have hv : σ[i]? = some (some v) := h
      unfold slotOf at e1
      simp only at e1
      split at e1
      · rename_i n q
        cases e1
        obtain ⟨o, h1, b, ho', h2, h3, h4, h5⟩ := hr.sl i _ q
        rw [hv] at h1
        cases h1
        exact ⟨b, ho', h2, c.slot h3, h4, h5.keep c.fzk⟩
      · rename_i n q
        cases e1
        obtain ⟨o, h1, b, ho', h2, h3, h4, h5⟩ := hr.sl i _ q
        rw [hv] at h1
        cases h1
        exact ⟨b, ho', h2, c.of h3 (fun _ z => nomatch z) (fun z => nomatch z), h4, h5.keep c.fzk⟩
      · cases e1
    | bor n =>
      cases e1
      obtain ⟨b, ho', h2, h3, h4, h5⟩ := h
      subst h2
      exact ⟨b, ho', rfl, c.of h3 (fun _ z => nomatch z) (fun z => nomatch z), h4, h5.keep c.fzk⟩
    | own n =>
      cases e1
      obtain ⟨b, ho', h2, h3, h4, h5, h6⟩ := h
      subst h2
      have := ho 0 n b rfl rfl
      exact ⟨b, ho', rfl, this, h4, h5.keep c.fzk⟩
theorem call_gc (e0 : Le g0 H0 g H) {as : List Ar} {vs : List V} (za : ZAs K σ g0 H0 g H as vs) (ho : owns as ≤ 1) : ∃ gc, Gc g0 H0 g H gc ∧ ∀ (i : Nat) (n : Nd) (a : Addr), as[i]? = some (Ar.own n) → vs[i]? = some (V.ref a) → gc.tg a = .slot (0 + i) := by
  rcases own_one ho with q | ⟨j, n, q1, q2⟩
  · exact ⟨clr g, ⟨rfl, rfl, fun a => Or.inr rfl⟩, fun i n a z => absurd z (q i n)⟩
  · have get : ∀ {as : List Ar} {vs : List V} {j : Nat} {n : Nd}, ZAs K σ g0 H0 g H as vs → as[j]? = some (.own n) → ∃ (a : Addr), vs[j]? = some (V.ref a) ∧ g.tg a = .tmp ∧ Free g0 H0 a := by
      intro as vs j n z
      induction z generalizing j with
      | nil => intro q; simp at q
      | @cons x v xs vs h t ih =>
        intro q
        cases j with
        | zero =>
          simp only [List.getElem?_cons_zero, Option.some.injEq] at q
          subst q
          obtain ⟨b, ho', h2, h3, h4, h5, h6⟩ := h
          subst h2
          exact ⟨b, rfl, h3, h6⟩
        | succ j =>
          obtain ⟨a, h1, h2⟩ := ih (j := j) (by simpa using q)
          exact ⟨a, by simpa using h1, h2⟩
    obtain ⟨p, p1, p2, p3⟩ := get za q1
    refine ⟨(clr g).set p (.slot j), ⟨rfl, rfl, fun a => ?_⟩, fun i m a z1 z2 => ?_⟩
    · by_cases e : a = p
      · subst e
        exact Or.inl ⟨p2, p3, j, G.set_same⟩
      · exact Or.inr (G.set_ne e)
    · have := q2 i m z1
      subst this
      rw [p1] at z2
      cases z2
      rw [Nat.zero_add]
      exact G.set_same
theorem RWs_c : ∀ {dv : List W} {ds : List V}, dv.map cV = ds.map some → RWs K g H dv ds
  | [], [], _ => .nil
  | [], _ :: _, h => by cases h
  | _ :: _, [], h => by cases h
  | w :: dv, d :: ds, h => by
    simp only [List.map_cons, List.cons.injEq] at h
    exact .cons (rw_c h.1) (RWs_c h.2)
theorem slrs_vals : ∀ {dv : List W} {ds : List V} (j : Nat), RWs K g H dv ds → SlRs K g H j (dv.map .val) ds
  | [], _, _, .nil => trivial
  | w :: dv, _, j, .cons h hs => ⟨⟨_, rfl, h⟩, slrs_vals (j + 1) hs⟩
theorem slrs_app : ∀ {ss tt : List Sl} {vs us : List V} (j : Nat), SlRs K g H j ss vs → SlRs K g H (j + ss.length) tt us → SlRs K g H j (ss ++ tt) (vs ++ us)
  | [], tt, [], us, j, _, h => by simpa using h
  | [], _, _ :: _, _, _, h, _ => h.elim
  | _ :: _, _, [], _, _, h, _ => h.elim
  | s :: ss, tt, v :: vs, us, j, h, h2 => ⟨h.1, slrs_app (j + 1) h.2 (by rw [Nat.add_assoc, Nat.add_comm 1 ss.length]; exact h2)⟩
theorem call_read {cv : Ec → Value} {f : Fn} {dv : List W} {dvs : List V} (hd : dv.map cV = dvs.map some) {das : FS → R (List Ar)} {n : Nat} {Q : VK} (hlen : ∀ as st1, das st = .ok as st1 → as.length + dv.length = n) (hr : Rel K g H st σ)
    (k : Ok K Wx g H σ (ZT K σ g H) Q (eCall f dv das st)) : Ok K Wx g H σ (ZAs K σ g H) (fun vs H1 => spF cv K n f (vs ++ dvs) H1 Q (WE (toWX cv Wx) σ)) (das st) := by
  refine Ok.seq k fun as st1 g1 H1 vs q e1 r1 z1 k1 => ?_
  have hl := hlen as st1 q
  have hdl : dv.length = dvs.length := by
    have := congrArg List.length hd
    simpa using this
  split at k1
  · rename_i sls es
    split at k1
    · rename_i ho
      obtain ⟨gc, c, hc⟩ := call_gc e1 z1 ho
      have zl : as.length = vs.length := Paired.length z1
      refine ⟨by rw [List.length_append]; omega, gc, st1.s, sls ++ dv.map .val, c.obs r1.ob, slrs_app 0 (slrs_of c r1 0 z1 es hc) (slrs_vals _ (RWs_c hd)), okf_of c e1 r1 k1⟩
    · exact k1.elim
  · exact k1.elim
end
def Len (n : Nat) (das : FS → R (List Ar)) : Prop := ∀ st as st1, das st = .ok as st1 → as.length = n
theorem len_nil : Len 0 aNil := fun st as st1 e => by cases e; rfl
theorem len_cons {n : Nat} {d : FS → R Ar} {ds : FS → R (List Ar)} (h : Len n ds) : Len (n + 1) (aCons d ds) := fun st as st1 e => by
  unfold aCons at e
  cases q : d st with
  | ok t s1 =>
    rw [q] at e
    simp only [R.bind_ok] at e
    cases q2 : ds s1 with
    | ok ts s2 =>
      rw [q2] at e
      simp only [R.bind_ok, R.ok.injEq] at e
      rw [← e.1, List.length_cons, h _ _ _ q2]
    | ex _ _ _ => rw [q2] at e; cases e
    | stuck => rw [q2] at e; cases e
  | ex _ _ _ => rw [q] at e; cases e
  | stuck => rw [q] at e; cases e
section
variable {X : Cx} {Wx : MX} {x : Str} {p pos : Pos} {e : Expr} {es : List Expr} {das : FS → R (List Ar)} {k n m : Nat} {f : Addr} {fd : FuncData} {ps : List Str} {fn : Fn} {dv : List W} {dvs : List V} {ds : List Value}
theorem ve_call {cv : Ec → Value} (F : FnG X.prog X.w X.K X.mg X.base (L2N.CX X.prog X.w) k f fd ps (spF cv X.K n fn)) (hr : Room k X.A) (hgd : X.A.guards = some []) (hg : Gl X x) (hm : X.mg x = some (.ref f)) (hk : PySem.W.keepIn X.K (.ref f) = true) (hb : Binds X.K fd ps ds) (hd : Vals dvs ds) (hc : dv.map cV = dvs.map some)
    (tk : L2N.Takes X (toWX cv Wx)) (ha : VAr X Wx (e :: es) das) (hl : Len m das) (hn : m + dv.length = n) (hdb : (x == ("__debug__" : Str)) = false := by decide) (he : starEach (e :: es) X.env = (false, eval e X.env) :: starEach es X.env := by rfl) (hpl : (backTo pos (starEach es X.env)).any (·.1) = false := by rfl) :
    VE X Wx (.Call (.Name x p) (e :: es) [] pos) (eCall fn dv das) := PE_imp (pe_callG (E := WE (toWX cv Wx)) F hr hgd hg hm hk hb hd (fun σ => L2N.passAt tk σ) ha hdb he hpl) fun σ H Q ⟨g, st, hr, k⟩ =>
  ⟨g, st, hr, call_read hc (fun as st1 q => by rw [hl st as st1 q]; exact hn) hr k⟩
end
end MV

namespace MV
open PySem PySem.Spec PyProof.Rows L2

inductive Fl where
  | nx | ret (t : T) | brk | cnt
section
variable (K : PySem.W.Frag) (Wx : MX)
def OkS (g0 : G) (H0 : Hp) (D : Ends) : R Fl → Prop
  | .ok .nx st => ∀ g H σ, Le g0 H0 g H → Rel K g H st σ → D.nx σ H
  | .ok .brk st => ∀ g H σ, Le g0 H0 g H → Rel K g H st σ → D.bk σ H
  | .ok .cnt st => ∀ g H σ, Le g0 H0 g H → Rel K g H st σ → D.ct σ H
  | .ok (.ret t) st => ∀ g H v, Le g0 H0 g H → ObsR K g H st.s → RTF K g H t v → Fre g0 H0 t v → D.rt v H
  | .ex c fs st => ∀ g H σ d, Le g0 H0 g H → Rel K g H st σ → XF K g H d fs → Wx c d σ H
  | .stuck => False
def lS (d : FS → R Fl) : TS := fun D σ H => ∃ g st, Rel K g H st σ ∧ OkS K Wx g H D (d st)
end
def VS (X : Cx) (Wx : MX) (s : Stmt) (d : FS → R Fl) : Prop := PS X s (lS X.K Wx d)
def VSs (X : Cx) (Wx : MX) (s : List Stmt) (d : FS → R Fl) : Prop := PSs X s (lS X.K Wx d)
theorem PS_imp {X : Cx} {s : Stmt} {t t' : TS} (h : PS X s t) (hi : ∀ D σ H, t' D σ H → t D σ H) : PS X s t' := ⟨fun pins st σ H D I q => h.run pins st σ H D I (hi D σ H q)⟩
theorem PSs_imp {X : Cx} {s : List Stmt} {t t' : TS} (h : PSs X s t) (hi : ∀ D σ H, t' D σ H → t D σ H) : PSs X s t' := ⟨fun pins st σ H D I q => h.run pins st σ H D I (hi D σ H q)⟩
section
variable {K : PySem.W.Frag} {Wx : MX} {g g0 g1 : G} {H H0 H1 : Hp} {σ : L2.St} {st : FS} {D : Ends}
theorem OkS.rebase {r : R Fl} (h : OkS K Wx g0 H0 D r) (e : Le g0 H0 g1 H1) : OkS K Wx g1 H1 D r := by
  cases r with
  | ok f st =>
    cases f with
    | nx => exact fun g H σ e1 => h g H σ (e.trans e1)
    | brk => exact fun g H σ e1 => h g H σ (e.trans e1)
    | cnt => exact fun g H σ e1 => h g H σ (e.trans e1)
    | ret t => exact fun g H v e1 o r f => h g H v (e.trans e1) o r (fre_mono e f)
  | ex c fs st => exact fun g H σ d e1 => h g H σ d (e.trans e1)
  | stuck => exact h
theorem Ok.stm {α β : Type} {r : R α} {f : α → FS → R Fl} {Z : G → Hp → α → β → Prop} {Qm : β → Hp → Prop} (h : OkS K Wx g0 H0 D (r.bind f))
    (k : ∀ t st1 g1 H1 v, r = .ok t st1 → Le g0 H0 g1 H1 → Rel K g1 H1 st1 σ → Z g1 H1 t v → OkS K Wx g0 H0 D (f t st1) → Qm v H1) : Ok K Wx g0 H0 σ Z Qm r := by
  cases r with
  | ok t st => exact fun g1 H1 v e1 r1 z1 => k t st g1 H1 v rfl e1 r1 z1 h
  | ex c fs st => exact fun g H d e r x => h g H σ d e r x
  | stuck => exact h
@[simp] def sSeq (d1 d2 : FS → R Fl) (st : FS) : R Fl := (d1 st).bind fun f st1 => match f with
  | .nx => d2 st1
  | f => .ok f st1
@[simp] def sNil (st : FS) : R Fl := .ok .nx st
theorem OkS.seq {r : R Fl} {d2 : FS → R Fl} (h : OkS K Wx g0 H0 D (r.bind fun f st1 => match f with
  | .nx => d2 st1
  | f => .ok f st1)) : OkS K Wx g0 H0 { D with nx := lS K Wx d2 D } r := by
  cases r with
  | ok f st =>
    cases f with
    | nx => exact fun g H σ e r => ⟨g, st, r, OkS.rebase (show OkS K Wx g0 H0 D (d2 st) from h) e⟩
    | brk => exact h
    | cnt => exact h
    | ret t => exact h
  | ex c fs st => exact h
  | stuck => exact h
end
section
variable {X : Cx} {Wx : MX} {s : Stmt} {ss : List Stmt} {e : Expr} {d : FS → R T} {d1 d2 : FS → R Fl} {c : Expr} {dc : FS → R Bool} {pos : Pos}
theorem vss_nil : VSs X Wx [] sNil := PSs_imp pss_nil fun D σ H ⟨g, st, hr, k⟩ => k g H σ (Le.refl _ _) hr
theorem vss_cons (h : VS X Wx s d1) (hs : VSs X Wx ss d2) : VSs X Wx (s :: ss) (sSeq d1 d2) := PSs_imp (pss_cons h hs) fun D σ H ⟨g, st, hr, k⟩ => ⟨g, st, hr, k.seq⟩
theorem vss_one (h : VS X Wx s d1) : VSs X Wx [s] d1 := pss_one h
@[simp] def sIf (dc : FS → R Bool) (d1 d2 : FS → R Fl) (st : FS) : R Fl := (dc st).bind fun b st1 => if b = true then d1 st1 else d2 st1
theorem vs_if {a b : List Stmt} (hc : VB X Wx c dc) (ha : VSs X Wx a d1) (hb : VSs X Wx b d2) : VS X Wx (.If c a b pos) (sIf dc d1 d2) := PS_imp (ps_if hc ha hb) fun D σ H ⟨g, st, hr, k⟩ => by
  refine ⟨g, st, hr, Ok.stm k fun b st1 g1 H1 v1 _ e1 r1 z1 k1 => ?_⟩
  cases z1
  split at k1
  · rename_i hc
    rw [if_pos hc]
    exact ⟨g1, st1, r1, k1.rebase e1⟩
  · rename_i hc
    rw [if_neg hc]
    exact ⟨g1, st1, r1, k1.rebase e1⟩
@[simp] def retOf (t : T) (st : FS) : Option T := match t with
  | .loc i => (match st.r[i]? with
    | some (.own n) => some (.new n)
    | _ => none)
  | t => some t
@[simp] def sRet (d : FS → R T) (st : FS) : R Fl := (d st).bind fun t st1 => match retOf t st1 with
  | some t' => .ok (.ret t') st1
  | none => .stuck
@[simp] def sRetN (st : FS) : R Fl := .ok (.ret (.w .non)) st
theorem vs_ret (h : VE X Wx e d) : VS X Wx (.Return (some e) pos) (sRet d) := PS_imp (ps_ret h) fun D σ H ⟨g, st, hr, k⟩ => by
  refine ⟨g, st, hr, Ok.stm k fun t st1 g1 H1 v1 _ e1 r1 z1 k1 => ?_⟩
  cases t with
  | w w => exact k1 g1 H1 v1 e1 r1.ob z1.1 (fun _ z => nomatch z)
  | new n => exact k1 g1 H1 v1 e1 r1.ob z1.1 z1.2
  | loc i =>
    unfold retOf at k1
    simp only at k1
    cases q : st1.r[i]? with
    | none => rw [q] at k1; exact k1.elim
    | some x =>
      rw [q] at k1
      cases x with
      | own n =>
        obtain ⟨o, h1, a, ho, h2, h3, h4, h5⟩ := r1.sl i _ q
        have hv : σ[i]? = some (some v1) := z1.1
        rw [hv] at h1
        cases h1
        cases h2
        have hf : Free g1 H1 a := fun o e => by rw [h3]; exact ⟨(fun z => nomatch z), (fun z => nomatch z), (fun z => nomatch z)⟩
        have fk : Fzk g1 H1 (g1.set a .tmp) H1 := ⟨fun _ _ => rfl, Nat.le_refl _, fun b u hb hu => by
          have ne : b ≠ a := fun z => by subst z; rw [h3] at hb; cases hb
          rw [G.set_ne ne]
          exact ⟨hb, hu⟩⟩
        refine k1 (g1.set a .tmp) H1 _ (e1.tag (hf.back e1)) ⟨r1.ob.n, fun j b hb => ?_⟩ ⟨a, ho, rfl, G.set_same, h4, h5.keep fk⟩ (fun m z b w => by cases w; exact hf.back e1)
        obtain ⟨q1, q2⟩ := r1.ob.ob j b hb
        have ne : g1.m j ≠ a := fun z => by rw [z, h3] at q1; cases q1
        refine ⟨(G.set_ne (g := g1) (t := .tmp) ne).trans q1, ?_⟩
        exact q2.keep fk fun _ z => z
      | _ => exact k1.elim
end

def fnOf (N : Nat) (d : FS → R Fl) : Fn := fun sls s => match d ⟨sls ++ List.replicate (N - sls.length) .no, s⟩ with
  | .ok .nx st => .ok (.w .non) st
  | .ok (.ret t) st => .ok t st
  | .ok _ _ => .stuck
  | .ex c fs st => .ex c fs st
  | .stuck => .stuck
section
variable {K : PySem.W.Frag} {g : G} {H : Hp}
theorem slrs_get : ∀ {j : Nat} {ss : List Sl} {vs : List V}, SlRs K g H j ss vs → ss.length = vs.length ∧ ∀ i x, ss[i]? = some x → ∃ v, vs[i]? = some v ∧ SltR K g H (j + i) x (some v)
  | _, [], [], _ => ⟨rfl, fun i x h => by simp at h⟩
  | _, [], _ :: _, h => h.elim
  | _, _ :: _, [], h => h.elim
  | j, s :: ss, v :: vs, h => by
    obtain ⟨h1, h2⟩ := slrs_get h.2
    refine ⟨by simp [h1], fun i x e => ?_⟩
    cases i with
    | zero =>
      simp only [List.getElem?_cons_zero, Option.some.injEq] at e
      subst e
      exact ⟨v, rfl, h.1⟩
    | succ i =>
      obtain ⟨u, h3, h4⟩ := h2 i x (by simpa using e)
      exact ⟨u, by simpa using h3, by rw [Nat.add_assoc, Nat.add_comm 1 i] at h4; exact h4⟩
theorem start_rel {N : List Str} {s : List Ob} {ss : List Sl} {vs : List V} (ho : ObsR K g H s) (h : SlRs K g H 0 ss vs) : Rel K g H ⟨ss ++ List.replicate (N.length - ss.length) .no, s⟩ (start N vs) := by
  obtain ⟨h1, h2⟩ := slrs_get h
  refine ⟨?_, fun i x e => ?_, ho⟩
  · show (ss ++ List.replicate (N.length - ss.length) Sl.no).length = (vs.map some ++ List.replicate (N.length - vs.length) none).length
    simp [h1]
  · by_cases hi : i < ss.length
    · rw [List.getElem?_append_left hi] at e
      obtain ⟨v, h3, h4⟩ := h2 i x e
      refine ⟨some v, ?_, by rw [Nat.zero_add] at h4; exact h4⟩
      show (vs.map some ++ List.replicate (N.length - vs.length) none)[i]? = _
      rw [List.getElem?_append_left (by simp; omega), List.getElem?_map, h3]
      rfl
    · rw [List.getElem?_append_right (by omega)] at e
      obtain ⟨hl, hx⟩ := List.getElem?_eq_some_iff.mp e
      rw [List.getElem_replicate] at hx
      subst hx
      rw [List.length_replicate] at hl
      refine ⟨none, ?_, trivial⟩
      show (vs.map some ++ List.replicate (N.length - vs.length) none)[i]? = _
      rw [List.getElem?_append_right (by simp; omega), List.getElem?_replicate, if_pos (by simp; omega)]
variable {P : Program} {w : World} {mg : Str → Option Value} {base : Heap} {x qual : Str} {params : Arguments} {body : List Stmt} {scope : Scope} {dvs : List V} {kws : List (Str × V)} {f : Addr} {fd : FuncData}
theorem fn_ok {cv : Ec → Value} {N ps : List Str} {k n : Nat} {d : FS → R Fl} (F : FunD K x qual params body scope dvs kws f fd) (S : FnScope N ps scope) (hn : ps.length = n)
    (hb : ∀ (cdv : Value) (A : Around) (outer : List Env) (s : Shared) (H : Hp) (E : XK), Room k (A.deeper (envOfC qual scope s.heap.objs.size f cdv)) → A.guards = some [] →
      VSs (cxOf (L2N.CX P w) P w K mg base N qual scope f cdv A outer s H E) (fun c d _ H => E (cv c) d H) body d) : FnG P w K mg base (L2N.CX P w) (k + 1) f fd ps (spF cv K n (fnOf N.length d)) := by
  refine fnG_of F S (fun vs H Q E h => by rw [h.1, hn]) fun cdv A outer s H vs Q E hr hgd h => ⟨_, hb cdv A outer s H E hr hgd, ?_⟩
  obtain ⟨_, g, ob, sls, ho, hs, k⟩ := h
  refine ⟨g, _, start_rel ho hs, ?_⟩
  unfold fnOf at k
  cases q : d ⟨sls ++ List.replicate (N.length - sls.length) .no, ob⟩ with
  | ok f st =>
    rw [q] at k
    cases f with
    | nx => exact fun g' H' σ e r => k g' H' .non e r.ob .non (fun _ z => nomatch z)
    | ret t => exact k
    | brk => exact k.elim
    | cnt => exact k.elim
  | ex c fs st =>
    rw [q] at k
    exact fun g' H' σ dd e r hx => k g' H' dd e r.ob hx
  | stuck => rw [q] at k; exact k
end
end MV

namespace MV
open PySem PySem.Spec PyProof.Rows L2

section
variable {K : PySem.W.Frag} {Wx : MX} {g g0 g1 : G} {H H0 H1 : Hp} {σ : L2.St} {st : FS}
theorem Rel.setr (hr : Rel K g H st σ) {i : Nat} {x : Sl} {o : Option V} (hi : i < σ.length) (hx : SltR K g H i x o) : Rel K g H (st.setr i x) (σ.set i o) := by
  refine ⟨?_, fun j y e => ?_, hr.ob⟩
  · show (st.r.set i x).length = (σ.set i o).length
    rw [List.length_set, List.length_set]
    exact hr.len
  · have e' : (st.r.set i x)[j]? = some y := e
    by_cases hj : j = i
    · subst hj
      rw [List.getElem?_set_self (by rw [hr.len]; exact hi)] at e'
      cases e'
      exact ⟨o, List.getElem?_set_self hi, hx⟩
    · rw [List.getElem?_set_ne (Ne.symm hj)] at e'
      obtain ⟨u, h1, h2⟩ := hr.sl j y e'
      exact ⟨u, by rw [List.getElem?_set_ne (Ne.symm hj)]; exact h1, h2⟩
theorem Rel.forget (hr : Rel K g H st σ) (i : Nat) : Rel K g H (st.setr i .no) σ := by
  refine ⟨?_, fun j y e => ?_, hr.ob⟩
  · show (st.r.set i .no).length = σ.length
    rw [List.length_set]
    exact hr.len
  · have e' : (st.r.set i .no)[j]? = some y := e
    by_cases hj : j = i
    · subst hj
      have hl : j < st.r.length := by
        have := (List.getElem?_eq_some_iff.mp e').1
        rw [List.length_set] at this
        exact this
      rw [List.getElem?_set_self hl] at e'
      cases e'
      exact ⟨σ[j]'(by rw [← hr.len]; exact hl), List.getElem?_eq_getElem _, trivial⟩
    · rw [List.getElem?_set_ne (Ne.symm hj)] at e'
      exact hr.sl j y e'
def G.obj (g : G) (p : Addr) : G := ⟨fun a => if a = p then .obj g.n else g.tg a, fun j => if j = g.n then p else g.m j, g.n + 1⟩
theorem G.obj_same {p : Addr} : (g.obj p).tg p = .obj g.n := if_pos rfl
theorem G.obj_ne {p a : Addr} (h : a ≠ p) : (g.obj p).tg a = g.tg a := if_neg h
theorem G.obj_m {p : Addr} : (g.obj p).m g.n = p := if_pos rfl
theorem G.obj_m_ne {p : Addr} {j : Nat} (h : j < g.n) : (g.obj p).m j = g.m j := if_neg (Nat.ne_of_lt h)
theorem obj_fzk {p : Addr} (hp : g.tg p = .tmp) : Fzk g H (g.obj p) H := ⟨fun j h => G.obj_m_ne h, Nat.le_succ _, fun a o h e => by
  have ne : a ≠ p := fun z => by subst z; rw [hp] at h; cases h
  exact ⟨(G.obj_ne ne).trans h, e⟩⟩
theorem Le.obj {p : Addr} (e : Le g0 H0 g H) (hp : Free g0 H0 p) : Le g0 H0 (g.obj p) H :=
  ⟨Nat.le_trans e.n (Nat.le_succ _), fun j h => (G.obj_m_ne (Nat.lt_of_lt_of_le h e.n)).trans (e.m j h), fun a u h q => by
    have ne : a ≠ p := fun z => by subst z; exact (hp u q).1 h
    rw [G.obj_ne ne]
    exact e.fz a u h q, fun a u h q => by
    have ne : a ≠ p := fun z => by
      subst z
      rcases h with h | h
      · exact (hp u q).2.1 h
      · exact (hp u q).2.2 h
    rw [G.obj_ne ne]
    exact e.no a u h q, e.dom⟩
theorem SltR.keep {g' : G} {H' : Hp} (fk : Fzk g H g' H') (hk : ∀ a o, H a = some o → (∃ i, g.tg a = .slot i) ∨ g.tg a = .no → g'.tg a = g.tg a ∧ H' a = some o) {i : Nat} {x : Sl} {o : Option V} (h : SltR K g H i x o) : SltR K g' H' i x o := by
  cases x with
  | no => trivial
  | val w =>
    obtain ⟨v, h1, h2⟩ := h
    exact ⟨v, h1, h2.keep fk⟩
  | own n =>
    obtain ⟨a, ho, h1, h2, h3, h4⟩ := h
    obtain ⟨q1, q2⟩ := hk a ho h3 (Or.inl ⟨i, h2⟩)
    exact ⟨a, ho, h1, q1.trans h2, q2, h4.keep fk⟩
  | bor n =>
    obtain ⟨a, ho, h1, h2, h3, h4⟩ := h
    obtain ⟨q1, q2⟩ := hk a ho h3 (Or.inr h2)
    exact ⟨a, ho, h1, q1.trans h2, q2, h4.keep fk⟩
theorem Rel.obj (hr : Rel K g H st σ) {p : Addr} {n : Nd} {o : HO} (hp : g.tg p = .tmp) (ho : H p = some o) (hn : NdR K g H n o) : Rel K (g.obj p) H ⟨st.r, st.s ++ [.con n]⟩ σ := by
  have fk : Fzk g H (g.obj p) H := obj_fzk hp
  refine ⟨hr.len, fun i x hx => ?_, by show g.n + 1 = (st.s ++ [Ob.con n]).length; rw [List.length_append, hr.ob.n] <;> rfl, fun j b hb => ?_⟩
  · obtain ⟨u, h1, h2⟩ := hr.sl i x hx
    refine ⟨u, h1, h2.keep fk fun a o' e z => ?_⟩
    have ne : a ≠ p := fun w => by
      subst w
      rcases z with ⟨i, z⟩ | z <;> rw [hp] at z <;> cases z
    exact ⟨G.obj_ne ne, e⟩
  · by_cases hj : j < st.s.length
    · rw [List.getElem?_append_left hj] at hb
      obtain ⟨h1, h2⟩ := hr.ob.ob j b hb
      have hm : (g.obj p).m j = g.m j := G.obj_m_ne (by rw [hr.ob.n]; exact hj)
      have ne : g.m j ≠ p := fun w => by rw [w, hp] at h1; cases h1
      rw [hm]
      refine ⟨(G.obj_ne ne).trans h1, ?_⟩
      exact h2.keep fk fun _ z => z
    · rw [List.getElem?_append_right (by omega)] at hb
      have hj2 : j - st.s.length = 0 := by
        have := (List.getElem?_eq_some_iff.mp hb).1
        simp at this
        omega
      rw [hj2] at hb
      simp only [List.getElem?_cons_zero, Option.some.injEq] at hb
      subst hb
      have e : j = g.n := by rw [hr.ob.n]; omega
      subst e
      rw [G.obj_m]
      exact ⟨G.obj_same, o, ho, hn.keep fk⟩

def OkG (K : PySem.W.Frag) (Wx : MX) (g0 : G) (H0 : Hp) (g : G) (H : Hp) (x : Ar) (v : V) (Q : L2.St → Hp → Prop) : R Unit → Prop
  | .ok _ st => ∀ g' σ' H', Le g0 H0 g' H' → Rel K g' H' st σ' → Fzk g H g' H' → (∀ b o, g.tg b = .tmp → H b = some o → (∀ n, x = .own n → v ≠ .ref b) → g'.tg b = .tmp ∧ H' b = some o) → Q σ' H'
  | .ex c fs st => ∀ g H d σ, Le g0 H0 g H → Rel K g H st σ → XF K g H d fs → Wx c d σ H
  | .stuck => False
end
def ZG (K : PySem.W.Frag) (g0 : G) (H0 : Hp) (g : G) (H : Hp) : Ar → V → Prop
  | .w w, v => RW K g H w v
  | .own n, v => ∃ a o, v = .ref a ∧ g.tg a = .tmp ∧ H a = some o ∧ NdR K g H n o ∧ Free g0 H0 a
  | _, _ => True
theorem ZA.zg {K : PySem.W.Frag} {σ : L2.St} {g0 g : G} {H0 H : Hp} {x : Ar} {v : V} (h : ZA K σ g0 H0 g H x v) : ZG K g0 H0 g H x v := by
  cases x <;> first
    | exact h
    | trivial
def lG (K : PySem.W.Frag) (Wx : MX) (d : Ar → FS → R Unit) : TG := fun v σ H Q => ∃ g0 H0 g st x, Le g0 H0 g H ∧ Rel K g H st σ ∧ ZG K g0 H0 g H x v ∧ OkG K Wx g0 H0 g H x v Q (d x st)
def VG (X : Cx) (Wx : MX) (t : Expr) (d : Ar → FS → R Unit) : Prop := PG X t (lG X.K Wx d)
theorem PG_imp {X : Cx} {e : Expr} {t t' : TG} (h : PG X e t) (hi : ∀ v σ H Q, t' v σ H Q → t v σ H Q) : PG X e t' := ⟨fun pins s σ H v u Q I r q => h.run pins s σ H v u Q I r (hi v σ H Q q)⟩
theorem PGs_imp {X : Cx} {e : List Expr} {t t' : TGs} (h : PGs X e t) (hi : ∀ v σ H Q, t' v σ H Q → t v σ H Q) : PGs X e t' := ⟨fun pins s σ H v u Q I r q => h.run pins s σ H v u Q I r (hi v σ H Q q)⟩
@[simp] def gSet (i : Nat) (x : Ar) (st : FS) : R Unit := match x with
  | .w w => if i < st.r.length then .ok () (st.setr i (.val w)) else .stuck
  | .own n => if i < st.r.length then .ok () (st.setr i (.own n)) else .stuck
  | _ => .stuck
@[simp] def gObj (i : Nat) (x : Ar) (st : FS) : R Unit := match x with
  | .own n => if i < st.r.length then .ok () (FS.setr ⟨st.r, st.s ++ [.con n]⟩ i (.val (.ref st.s.length))) else .stuck
  | _ => .stuck
def Nm (K : PySem.W.Frag) (i : Nat) (dg : Ar → FS → R Unit) : Prop := ∀ (Wx : MX) (v : V) (σ : L2.St) (H : Hp) (Q : L2.St → Hp → Prop), lG K Wx dg v σ H Q → Q (σ.set i (some v)) H
theorem nm_set {K : PySem.W.Frag} {i : Nat} : Nm K i (gSet i) := fun Wx v σ H Q ⟨g0, H0, g, st, x, e0, hr, hz, k⟩ => by
  unfold gSet at k
  cases x with
  | w w =>
    simp only at k
    split at k
    · rename_i hi
      exact k g _ H e0 (hr.setr (by rw [← hr.len]; exact hi) ⟨v, rfl, hz⟩) (Le.refl _ _).fzk fun b o h1 h2 _ => ⟨h1, h2⟩
    · exact k.elim
  | own n =>
    simp only at k
    split at k
    · rename_i hi
      obtain ⟨a, o, rfl, h1, h2, h3, h4⟩ := hz
      have s := Sim.tag (H := H) (t := .slot i) h1
      refine k (g.set a (.slot i)) _ H (e0.tag h4) ((hr.sim s).setr (by rw [← hr.len]; exact hi) ⟨a, o, rfl, G.set_same, h2, h3.keep s.fzk⟩) s.fzk fun b o' q1 q2 q3 => ?_
      have ne : b ≠ a := fun z => q3 n rfl (by rw [z])
      exact ⟨(G.set_ne ne).trans q1, q2⟩
    · exact k.elim
  | _ => exact k.elim
theorem nm_obj {K : PySem.W.Frag} {i : Nat} : Nm K i (gObj i) := fun Wx v σ H Q ⟨g0, H0, g, st, x, e0, hr, hz, k⟩ => by
  unfold gObj at k
  cases x with
  | own n =>
    simp only at k
    split at k
    · rename_i hi
      obtain ⟨a, o, rfl, h1, h2, h3, h4⟩ := hz
      have r2 := hr.obj h1 h2 h3
      have hm : RW K (g.obj a) H (.ref st.s.length) (.ref a) := by
        have z : RW K (g.obj a) H (.ref g.n) (.ref ((g.obj a).m g.n)) := .ref g.n (Nat.lt_succ_self _)
        rw [G.obj_m, hr.ob.n] at z
        exact z
      refine k (g.obj a) _ H (e0.obj h4) (r2.setr (by rw [← hr.len]; exact hi) ⟨_, rfl, hm⟩) (obj_fzk h1) fun b o' q1 q2 q3 => ?_
      have ne : b ≠ a := fun z => q3 n rfl (by rw [z])
      exact ⟨(G.obj_ne ne).trans q1, q2⟩
    · exact k.elim
  | _ => exact k.elim
section
variable {X : Cx} {Wx : MX} {e : Expr} {i : Nat}
theorem vg_nm {dg : Ar → FS → R Unit} (hn : Nm X.K i dg) (h : PG X e (gName i)) : VG X Wx e dg := PG_imp h fun v σ H Q k => hn Wx v σ H Q k
end

@[simp] def sAsg (da : FS → R Ar) (dg : Ar → FS → R Unit) (st : FS) : R Fl := (da st).bind fun x st1 => (dg x st1).bind fun _ st2 => .ok .nx st2
section
variable {X : Cx} {Wx : MX} {tg e : Expr} {da : FS → R Ar} {dg : Ar → FS → R Unit} {pos : Pos}
theorem okg_of {K : PySem.W.Frag} {g0 g : G} {H0 H : Hp} {D : Ends} {x : Ar} {v : V} {r : R Unit} (k : OkS K Wx g0 H0 D (r.bind fun _ st2 => .ok .nx st2)) : OkG K Wx g0 H0 g H x v D.nx r := by
  cases r with
  | ok u st => exact fun g' σ' H' e r _ _ => k g' H' σ' e r
  | ex c fs st => exact fun g H d σ e r x => k g H σ d e r x
  | stuck => exact k
theorem vs_asg (he : VA1 X Wx e da) (hg : VG X Wx tg dg) (hs : swapsWithSole [tg] e pos.line X.env = pure false := by rfl) (hw : swappedStores [tg] e X.env = pure none := by rfl)
    (h1 : (assignEach [tg] X.env).map (·.2) = [assign tg X.env] := by rfl) : VS X Wx (.Assign [tg] e pos) (sAsg da dg) := PS_imp (ps_asg he hg hs hw h1) fun D σ H ⟨g, st, hr, k⟩ => by
  refine ⟨g, st, hr, Ok.stm k fun x st1 g1 H1 v1 _ e1 r1 z1 k1 => ?_⟩
  exact ⟨g, H, g1, st1, x, e1, r1, z1.zg, okg_of k1⟩
end

def oas : List Ar → List V → List Addr
  | .own _ :: xs, .ref a :: vs => a :: oas xs vs
  | _ :: xs, _ :: vs => oas xs vs
  | _, _ => []
@[simp] def gAll : List (Ar → FS → R Unit) → List Ar → FS → R Unit
  | [], [], st => .ok () st
  | d :: ds, x :: xs, st => (d x st).bind fun _ st1 => gAll ds xs st1
  | _, _, _ => .stuck
def OkN (K : PySem.W.Frag) (Wx : MX) (g0 : G) (H0 : Hp) (Q : L2.St → Hp → Prop) : R Unit → Prop
  | .ok _ st => ∀ g' σ' H', Le g0 H0 g' H' → Rel K g' H' st σ' → Q σ' H'
  | .ex c fs st => ∀ g H d σ, Le g0 H0 g H → Rel K g H st σ → XF K g H d fs → Wx c d σ H
  | .stuck => False
abbrev ZGs (K : PySem.W.Frag) (g0 : G) (H0 : Hp) (g : G) (H : Hp) : List Ar → List V → Prop := Paired (ZG K g0 H0 g H)
def lGs (K : PySem.W.Frag) (Wx : MX) (ds : List (Ar → FS → R Unit)) : TGs := fun vs σ H Q => ∃ g0 H0 g st xs, Le g0 H0 g H ∧ Rel K g H st σ ∧ ZGs K g0 H0 g H xs vs ∧ (oas xs vs).Nodup ∧ OkN K Wx g0 H0 Q (gAll ds xs st)
def VGs (X : Cx) (Wx : MX) (ts : List Expr) (ds : List (Ar → FS → R Unit)) : Prop := PGs X ts (lGs X.K Wx ds)
section
variable {K : PySem.W.Frag} {Wx : MX} {g g0 g1 : G} {H H0 H1 : Hp} {σ : L2.St} {st : FS}
theorem ZGs.keep {g' : G} {H' : Hp} (fk : Fzk g H g' H') : ∀ {xs : List Ar} {vs : List V}, ZGs K g0 H0 g H xs vs → (∀ b o, g.tg b = .tmp → H b = some o → b ∈ oas xs vs → g'.tg b = .tmp ∧ H' b = some o) → ZGs K g0 H0 g' H' xs vs
  | [], [], .nil, _ => .nil
  | x :: xs, v :: vs, .cons h hs, k => by
    refine .cons ?_ (ZGs.keep fk hs fun b o h1 h2 h3 => k b o h1 h2 ?_)
    · cases x with
      | w w => exact RW.keep fk h
      | own n =>
        obtain ⟨a, o, rfl, h1, h2, h3, h4⟩ := h
        obtain ⟨q1, q2⟩ := k a o h1 h2 List.mem_cons_self
        exact ⟨a, o, rfl, q1, q2, h3.keep fk, h4⟩
      | _ => trivial
    · cases x <;> cases v <;> first
        | exact h3
        | exact List.mem_cons_of_mem _ h3
variable {X : Cx} {t : Expr} {ts : List Expr} {dg : Ar → FS → R Unit} {dgs : List (Ar → FS → R Unit)}
theorem vgs_nil : VGs X Wx [] [] := PGs_imp pgs_nil fun vs σ H Q ⟨g0, H0, g, st, xs, e0, hr, hz, hn, k⟩ => by
  cases hz with
  | nil => exact ⟨rfl, k g σ H e0 hr⟩
  | cons h hs => exact k.elim
theorem lGs_cons {vs : List V} {Q : L2.St → Hp → Prop} (h : lGs K Wx (dg :: dgs) vs σ H Q) : ∃ v us, vs = v :: us ∧ lG K Wx dg v σ H (fun σ' H' => lGs K Wx dgs us σ' H' Q) := by
  obtain ⟨g0, H0, g, st, xs, e0, hr, hz, hn, k⟩ := h
  cases hz with
  | nil => exact k.elim
  | @cons x v xs vs h1 h2 =>
    refine ⟨v, vs, rfl, g0, H0, g, st, x, e0, hr, h1, ?_⟩
    have k' : OkN K Wx g0 H0 Q ((dg x st).bind fun _ st1 => gAll dgs xs st1) := k
    cases q : dg x st with
    | ok u st1 =>
      rw [q] at k'
      intro g' σ' H' e' r' fk tk
      refine ⟨g0, H0, g', st1, xs, e', r', ZGs.keep fk h2 fun b o q1 q2 q3 => tk b o q1 q2 fun n hx hv => ?_, ?_, k'⟩
      · subst hx hv
        exact (List.nodup_cons.mp (show (b :: oas xs vs).Nodup from hn)).1 q3
      · cases x <;> cases v <;> first
          | exact hn
          | exact (List.nodup_cons.mp hn).2
    | ex c fs st1 => rw [q] at k'; exact fun g H d σ e r x => k' g H d σ e r x
    | stuck => rw [q] at k'; exact k'
theorem lGs_nil {vs : List V} {Q : L2.St → Hp → Prop} (h : lGs K Wx [] vs σ H Q) : vs = [] ∧ Q σ H := by
  obtain ⟨g0, H0, g, st, xs, e0, hr, hz, hn, k⟩ := h
  cases hz with
  | nil => exact ⟨rfl, k g σ H e0 hr⟩
  | cons h hs => exact k.elim
theorem vgs_cons (h : VG X Wx t dg) (hs : VGs X Wx ts dgs) (he : (assignEach (t :: ts) X.env).map (·.2) = assign t X.env :: (assignEach ts X.env).map (·.2) := by rfl) : VGs X Wx (t :: ts) (dg :: dgs) := PGs_imp (pgs_cons h hs he) fun vs σ H Q k => lGs_cons k
end

def ZD (K : PySem.W.Frag) (g0 : G) (H0 : Hp) (g : G) (H : Hp) (xs : List Ar) (vs : List V) : Prop := ZGs K g0 H0 g H xs vs ∧ (oas xs vs).Nodup
def lD (K : PySem.W.Frag) (Wx : MX) (d : FS → R (List Ar)) : TA := fun σ H Q => ∃ g st, Rel K g H st σ ∧ Ok K Wx g H σ (ZD K g H) Q (d st)
def VD (X : Cx) (Wx : MX) (es : List Expr) (d : FS → R (List Ar)) : Prop := PA X es (lD X.K Wx d)
section
variable {K : PySem.W.Frag} {Wx : MX} {g g0 g1 g2 : G} {H H0 H1 H2 : Hp} {σ : L2.St} {st : FS}
theorem ZG.mono (e : Le g0 H0 g1 H1) {x : Ar} {v : V} (h : ZG K g1 H1 g H x v) : ZG K g0 H0 g H x v := by
  cases x with
  | own n =>
    obtain ⟨a, o, h1, h2, h3, h4, h5⟩ := h
    exact ⟨a, o, h1, h2, h3, h4, h5.back e⟩
  | _ => exact h
theorem ZG.le (e : Le g H g2 H2) {x : Ar} {v : V} (h : ZG K g0 H0 g H x v) : ZG K g0 H0 g2 H2 x v := by
  cases x with
  | own n =>
    obtain ⟨a, o, h1, h2, h3, h4, h5⟩ := h
    obtain ⟨q1, q2⟩ := e.no a o (Or.inr h2) h3
    exact ⟨a, o, h1, q1.trans h2, q2, h4.keep e.fzk, h5⟩
  | w w => exact RW.keep e.fzk h
  | _ => trivial
theorem oas_free : ∀ {xs : List Ar} {vs : List V}, ZGs K g0 H0 g H xs vs → ∀ a ∈ oas xs vs, Free g0 H0 a
  | [], [], .nil, a, h => by cases h
  | x :: xs, v :: vs, .cons h hs, a, ha => by
    cases x with
    | own n =>
      obtain ⟨b, o, rfl, h1, h2, h3, h4⟩ := h
      rcases List.mem_cons.mp ha with rfl | ha
      · exact h4
      · exact oas_free hs a ha
    | _ =>
      refine oas_free hs a ?_
      cases v <;> exact ha
variable {X : Cx} {e : Expr} {es : List Expr} {da : FS → R Ar} {ds : FS → R (List Ar)}
theorem vd_nil : VD X Wx [] aNil := PA_imp pa_nil fun σ H Q ⟨g, st, hr, k⟩ => k.here hr ⟨.nil, List.nodup_nil⟩
theorem vd_cons (h : VA1 X Wx e da) (hs : VD X Wx es ds) (hx : starEach (e :: es) X.env = (false, eval e X.env) :: starEach es X.env := by rfl) : VD X Wx (e :: es) (aCons da ds) := PA_imp (pa_cons h hs hx) fun σ H Q ⟨g, st, hr, k⟩ => by
  refine ⟨g, st, hr, Ok.seq k fun t st1 g1 H1 v1 _ e1 r1 z1 k1 => ?_⟩
  refine ⟨g1, st1, r1, Ok.seqR k1 e1 fun ts st2 g2 H2 vs _ e2 r2 z2 k2 => ?_⟩
  refine k2 g2 H2 _ (e1.trans e2) r2 ⟨.cons (z1.zg.le e2) (L2.Paired.mapP z2.1 fun _ _ q => q.mono e1), ?_⟩
  cases t with
  | own n =>
    obtain ⟨a, o, rfl, h1, h2, h3, h4⟩ := z1
    exact List.nodup_cons.mpr ⟨fun z => (oas_free z2.1 a z o h2).2.2 h1, z2.2⟩
  | _ => cases v1 <;> exact z2.2
end
@[simp] def sPar (das : FS → R (List Ar)) (dgs : List (Ar → FS → R Unit)) (st : FS) : R Fl := (das st).bind fun xs st1 => (gAll dgs xs st1).bind fun _ st2 => .ok .nx st2
section
variable {K : PySem.W.Frag} {Wx : MX} {g g0 g1 : G} {H H0 H1 : Hp} {σ : L2.St} {st : FS}
theorem okn_of {D : Ends} {r : R Unit} (k : OkS K Wx g0 H0 D (r.bind fun _ st2 => .ok .nx st2)) : OkN K Wx g0 H0 D.nx r := by
  cases r with
  | ok u st => exact fun g' σ' H' e r => k g' H' σ' e r
  | ex c fs st => exact fun g H d σ e r x => k g H σ d e r x
  | stuck => exact k
variable {X : Cx} {es ts : List Expr} {das : FS → R (List Ar)} {dgs : List (Ar → FS → R Unit)} {pos pt pt2 : Pos} {kt k2 n : Nat}
theorem vs_par (hc : X.calm = true) (he : VD X Wx es das) (hg : VGs X Wx ts dgs) (hn : (assignEach ts X.env).length = n) (hl : ∀ st xs st1, das st = .ok xs st1 → xs.length = n) (hz : n ≤ sizeLine) (hst : (assignEach ts X.env).findIdx? (·.1) = none := by rfl)
    (hs : swapsWithSole [.Tuple ts kt pt] (.Tuple es k2 pt2) pos.line X.env = pure false := by rfl) (hw : swappedStores [.Tuple ts kt pt] (.Tuple es k2 pt2) X.env = pure none := by rfl)
    (h1 : (assignEach [.Tuple ts kt pt] X.env).map (·.2) = [assign (.Tuple ts kt pt) X.env] := by rfl) : VS X Wx (.Assign [.Tuple ts kt pt] (.Tuple es k2 pt2) pos) (sPar das dgs) :=
  PS_imp (ps_asg (pe_tup he) (pg_tup hc hg hn hst) hs hw h1) fun D σ H ⟨g, st, hr, k⟩ => by
  refine ⟨g, st, hr, Ok.stm k fun xs st1 g1 H1 vs q e1 r1 z1 k1 => ?_⟩
  have hlen : vs.length = n := by rw [← hl _ _ _ q]; exact (Paired.length z1.1).symm
  refine ⟨by rw [hlen]; exact hz, fun p hp => ?_⟩
  have ln : Le g1 H1 (g1.set p .no) (upd H1 p (.tup vs)) := Le.new hp
  exact ⟨p, vs, rfl, SqT.of upd_same, hlen, g, H, g1.set p .no, st1, xs, e1.trans ln, r1.sim (Sim.new hp), L2.Paired.mapP z1.1 fun _ _ z => z.le ln, z1.2, okn_of k1⟩
theorem vs_par2 {i j : Nat} {x y : Str} {a b : Expr} {d1 d2 : Ar → FS → R Unit} {px py : Pos} (hc : X.calm = true) (hN : X.N.Nodup) (hi : X.N[i]? = some x) (hj : X.N[j]? = some y) (hij : i ≠ j) (hx : X.env.scope.names.lookup x = some .local) (hy : X.env.scope.names.lookup y = some .local)
    (he : VD X Wx [a, b] das) (n1 : Nm X.K i d1) (n2 : Nm X.K j d2)
    (hw : swappedStores [.Tuple [.Name x px, .Name y py] kt pt] (.Tuple [a, b] k2 pt2) X.env = pure (some [x, y]))
    (hs : swapsWithSole [.Tuple [.Name x px, .Name y py] kt pt] (.Tuple [a, b] k2 pt2) pos.line X.env = pure false := by rfl) :
    VS X Wx (.Assign [.Tuple [.Name x px, .Name y py] kt pt] (.Tuple [a, b] k2 pt2) pos) (sPar das [d1, d2]) := PS_imp (ps_par hc hN hi hj hij hx hy he hw hs) fun D σ H ⟨g, st, hr, k⟩ => by
  refine ⟨g, st, hr, Ok.stm k fun xs st1 g1 H1 vs q e1 r1 z1 k1 => ?_⟩
  have q0 : lGs X.K Wx [d1, d2] vs σ H1 D.nx := ⟨g, H, g1, st1, xs, e1, r1, z1.1, z1.2, okn_of k1⟩
  obtain ⟨v1, us, rfl, q1⟩ := lGs_cons q0
  have q2 := n1 Wx v1 σ H1 _ q1
  obtain ⟨v2, us2, rfl, q3⟩ := lGs_cons q2
  have q4 := n2 Wx v2 _ H1 _ q3
  obtain ⟨rfl, q5⟩ := lGs_nil q4
  exact ⟨v1, v2, rfl, q5⟩
end
end MV

namespace MV
open PySem PySem.Spec PyProof.Rows L2

@[simp] def ndOf (st : FS) : T → Option Nd
  | .loc i => (match st.r[i]? with
    | some (.own n) => some n
    | _ => none)
  | .w (.ref j) => (match st.s[j]? with
    | some (.con n) => some n
    | _ => none)
  | _ => none
@[simp] def setNd (st : FS) (t : T) (n : Nd) : FS := match t with
  | .loc i => st.setr i (.own n)
  | .w (.ref j) => ⟨st.r, st.s.set j (.con n)⟩
  | _ => st
section
variable {K : PySem.W.Frag} {Wx : MX} {g g0 : G} {H H0 : Hp} {σ : L2.St} {st : FS}
theorem Le.upd {a : Addr} {o : HO} (h : Free g H a) (ht : ∃ u, H a = some u) : Le g H g (upd H a o) := by
  obtain ⟨u, hu⟩ := ht
  refine ⟨Nat.le_refl _, fun _ _ => rfl, fun b v q e => ?_, fun b v q e => ?_, fun b e => ?_⟩
  · have ne : b ≠ a := fun z => by subst z; exact (h v e).1 q
    rw [upd_ne ne]
    exact ⟨q, e⟩
  · have ne : b ≠ a := fun z => by
      subst z
      rcases q with q | q
      · exact (h v e).2.1 q
      · exact (h v e).2.2 q
    rw [upd_ne ne]
    exact ⟨rfl, e⟩
  · by_cases z : b = a
    · subst z
      rw [upd_same] at e
      cases e
    · rw [upd_ne z] at e
      exact e
theorem mut_rel (hr : Rel K g H st σ) {t : T} {v : V} (ht : RT K g H σ t v) {n : Nd} (hn : ndOf st t = some n) : ∃ a o, v = .ref a ∧ H a = some o ∧ NdR K g H n o ∧ Free g H a ∧
    ∀ n' o', NdR K g H n' o' → Rel K g (upd H a o') (setNd st t n') σ := by
  cases t with
  | new _ => cases hn
  | loc i =>
    unfold ndOf at hn
    simp only at hn
    split at hn
    · rename_i n2 q
      cases hn
      obtain ⟨ov, h1, a, o, h2, h3, h4, h5⟩ := hr.sl i _ q
      have hv : σ[i]? = some (some v) := ht
      rw [hv] at h1
      cases h1
      cases h2
      have hf : Free g H a := fun u e => ⟨(fun z => by rw [h3] at z; cases z), (fun z => by rw [h3] at z; cases z), (fun z => by rw [h3] at z; cases z)⟩
      refine ⟨a, o, rfl, h4, h5, hf, fun n' o' hn' => ?_⟩
      have le : Le g H g (upd H a o') := Le.upd hf ⟨_, h4⟩
      refine ⟨?_, fun j x hx => ?_, hr.ob.n, fun j b hb => ?_⟩
      · show (st.r.set i _).length = _
        rw [List.length_set]
        exact hr.len
      · have hx' : (st.r.set i (.own n'))[j]? = some x := hx
        by_cases hj : j = i
        · subst hj
          rw [List.getElem?_set_self (List.getElem?_eq_some_iff.mp q).1] at hx'
          cases hx'
          exact ⟨_, hv, a, o', rfl, h3, upd_same, hn'.keep le.fzk⟩
        · rw [List.getElem?_set_ne (Ne.symm hj)] at hx'
          obtain ⟨u, q1, q2⟩ := hr.sl j x hx'
          refine ⟨u, q1, ?_⟩
          cases x with
          | no => trivial
          | val w =>
            obtain ⟨v, z1, z2⟩ := q2
            exact ⟨v, z1, z2.keep le.fzk⟩
          | own n3 =>
            obtain ⟨b, ho, z1, z2, z3, z4⟩ := q2
            have ne : b ≠ a := fun z => by
              subst z
              rw [h3] at z2
              exact hj (Tag.slot.inj z2).symm
            exact ⟨b, ho, z1, z2, by rw [upd_ne ne]; exact z3, z4.keep le.fzk⟩
          | bor n3 =>
            obtain ⟨b, ho, z1, z2, z3, z4⟩ := q2
            have ne : b ≠ a := fun z => by
              subst z
              rw [h3] at z2
              cases z2
            exact ⟨b, ho, z1, z2, by rw [upd_ne ne]; exact z3, z4.keep le.fzk⟩
      · obtain ⟨q1, q2⟩ := hr.ob.ob j b hb
        have ne : g.m j ≠ a := fun z => by
          rw [z, h3] at q1
          cases q1
        refine ⟨q1, ?_⟩
        exact q2.keep le.fzk fun o z => by rw [upd_ne ne]; exact z
    · cases hn
  | w w =>
    cases w with
    | ref j =>
      unfold ndOf at hn
      simp only at hn
      split at hn
      · rename_i n2 q
        cases hn
        cases (show RW K g H (.ref j) v from ht) with
        | ref _ hlt =>
          obtain ⟨h3, o, h4, h5⟩ := hr.ob.ob j _ q
          have hf : Free g H (g.m j) := fun u e => ⟨(fun z => by rw [h3] at z; cases z), (fun z => by rw [h3] at z; cases z), (fun z => by rw [h3] at z; cases z)⟩
          refine ⟨g.m j, o, rfl, h4, h5, hf, fun n' o' hn' => ?_⟩
          have le : Le g H g (upd H (g.m j) o') := Le.upd hf ⟨_, h4⟩
          refine ⟨hr.len, fun i x hx => ?_, by show g.n = (st.s.set j _).length; rw [List.length_set]; exact hr.ob.n, fun i b hb => ?_⟩
          · obtain ⟨u, q1, q2⟩ := hr.sl i x hx
            refine ⟨u, q1, ?_⟩
            cases x with
            | no => trivial
            | val w =>
              obtain ⟨v, z1, z2⟩ := q2
              exact ⟨v, z1, z2.keep le.fzk⟩
            | own n3 =>
              obtain ⟨b, ho, z1, z2, z3, z4⟩ := q2
              have ne : b ≠ g.m j := fun z => by
                rw [z, h3] at z2
                cases z2
              exact ⟨b, ho, z1, z2, by rw [upd_ne ne]; exact z3, z4.keep le.fzk⟩
            | bor n3 =>
              obtain ⟨b, ho, z1, z2, z3, z4⟩ := q2
              have ne : b ≠ g.m j := fun z => by
                rw [z, h3] at z2
                cases z2
              exact ⟨b, ho, z1, z2, by rw [upd_ne ne]; exact z3, z4.keep le.fzk⟩
          · have hb' : (st.s.set j (.con n'))[i]? = some b := hb
            by_cases hj : i = j
            · subst hj
              rw [List.getElem?_set_self (List.getElem?_eq_some_iff.mp q).1] at hb'
              cases hb'
              exact ⟨h3, o', upd_same, hn'.keep le.fzk⟩
            · rw [List.getElem?_set_ne (Ne.symm hj)] at hb'
              obtain ⟨q1, q2⟩ := hr.ob.ob i b hb'
              have ne : g.m i ≠ g.m j := fun z => by
                rw [z, h3] at q1
                exact hj (Tag.obj.inj q1).symm
              refine ⟨q1, ?_⟩
              exact q2.keep le.fzk fun o z => by rw [upd_ne ne]; exact z
      · cases hn
    | _ => cases hn
end

abbrev Mt := Nd → List W → Option (W × Nd)
@[simp] def mAppend : Mt := fun n ws => match n, ws with
  | .lst xs, [w] => if xs.length < sizeLine then some (.non, .lst (xs ++ [w])) else none
  | _, _ => none
@[simp] def mPop : Mt := fun n ws => match n, ws with
  | .lst xs, [] => (match xs[xs.length - 1]? with
    | some w => some (w, .lst xs.dropLast)
    | none => none)
  | _, _ => none

def rSetD : V → V → V → Hp → (Hp → Prop) → Prop := fun o i v H Q => ∃ a H', o = .ref a ∧ DPut H a i v H' ∧ Q H'
def rSetM : V → V → V → Hp → (Hp → Prop) → Prop := fun o i v H Q => rSetD o i v H Q ∨ rSetL o i v H Q
@[simp] def putN (n : Nd) (i : T) (w : W) : Option Nd := match n with
  | .dic kvs => (match keyOf i with
    | some k => if kvs.length < sizeLine then some (.dic (setK kvs k w)) else none
    | none => none)
  | .lst xs => (match i with
    | .w (.int j) => (match ixN xs.length j with
      | some k => some (.lst (xs.set k w))
      | none => none)
    | _ => none)
@[simp] def gItem (do_ di : FS → R T) (x : Ar) (st : FS) : R Unit := match x with
  | .w w => (do_ st).bind fun t st1 => (di st1).bind fun i st2 => match ndOf st2 t with
    | some n => (match putN n i w with
      | some n' => .ok () (setNd st2 t n')
      | none => .stuck)
    | none => .stuck
  | _ => .stuck
section
variable {X : Cx} {Wx : MX} {o i : Expr} {do_ di : FS → R T} {pos : Pos}
theorem set_M (hu : X.A.units + 1 < cLine) : PSet X rSetM := by
  intro pins s σ H o i v ov iv u Q I ro ri rv h
  rcases h with ⟨a, H', rfl, hp, q⟩ | h
  · cases ro
    exact d_setItem hu I hp ri rv fun s' I' => ⟨H', I', q⟩
  · exact set_list pins s σ H o i v ov iv u Q I ro ri rv h
theorem RWs.set {K : PySem.W.Frag} {g : G} {H : Hp} {w : W} {v : V} (hw : RW K g H w v) : ∀ {ws : List W} {vs : List V} (k : Nat), RWs K g H ws vs → RWs K g H (ws.set k w) (vs.set k v)
  | _, _, _, .nil => .nil
  | _, _, 0, .cons h hs => .cons hw hs
  | _, _, k + 1, .cons h hs => .cons h (RWs.set hw k hs)
theorem ok_g {K : PySem.W.Frag} {α β : Type} {g0 g : G} {H0 H : Hp} {σ : L2.St} {x : Ar} {v : V} {Q : L2.St → Hp → Prop} {r : R α} {f : α → FS → R Unit} {Z : G → Hp → α → β → Prop} {Qm : β → Hp → Prop} (e0 : Le g0 H0 g H) (h : OkG K Wx g0 H0 g H x v Q (r.bind f))
    (k : ∀ t st1 g1 H1 u, r = .ok t st1 → Le g H g1 H1 → Rel K g1 H1 st1 σ → Z g1 H1 t u → OkG K Wx g0 H0 g H x v Q (f t st1) → Qm u H1) : Ok K Wx g H σ Z Qm r := by
  cases r with
  | ok t st => exact fun g1 H1 v e1 r1 z1 => k t st g1 H1 v rfl e1 r1 z1 h
  | ex c fs st => exact fun g1 H1 d e r x => h g1 H1 d σ (e0.trans e) r x
  | stuck => exact h
theorem ok_gR {K : PySem.W.Frag} {α β : Type} {g0 g g2 : G} {H0 H H2 : Hp} {σ : L2.St} {x : Ar} {v : V} {Q : L2.St → Hp → Prop} {r : R α} {f : α → FS → R Unit} {Z : G → Hp → α → β → Prop} {Qm : β → Hp → Prop} (e0 : Le g0 H0 g H) (e2 : Le g H g2 H2) (h : OkG K Wx g0 H0 g H x v Q (r.bind f))
    (k : ∀ t st1 g1 H1 u, r = .ok t st1 → Le g2 H2 g1 H1 → Rel K g1 H1 st1 σ → Z g1 H1 t u → OkG K Wx g0 H0 g H x v Q (f t st1) → Qm u H1) : Ok K Wx g2 H2 σ Z Qm r := by
  cases r with
  | ok t st => exact fun g1 H1 v e1 r1 z1 => k t st g1 H1 v rfl e1 r1 z1 h
  | ex c fs st => exact fun g1 H1 d e r x => h g1 H1 d σ (e0.trans (e2.trans e)) r x
  | stuck => exact h
theorem put_read {K : PySem.W.Frag} {g : G} {H : Hp} {σ : L2.St} {a : Addr} {o : HO} {n n' : Nd} {t : T} {iv v : V} {w : W} {Q : Hp → Prop} (ha : H a = some o) (hn : NdR K g H n o) (hi : RT K g H σ t iv) (hw : RW K g H w v) (e : putN n t w = some n')
    (k : ∀ o', NdR K g H n' o' → Q (upd H a o')) : rSetM (.ref a) iv v H Q := by
  unfold putN at e
  cases n with
  | dic kvs =>
    simp only at e
    split at e
    · rename_i key hk
      split at e
      · rename_i hz
        cases e
        obtain ⟨hvs, rfl, h1, h2⟩ := ndr_dic hn
        rw [key_of_t hi hk]
        exact Or.inl ⟨a, _, rfl, DPut.k ha (by rw [← len_rel h1]; exact hz), k (.dK (putK hvs key v)) (set_rel hw h1 h2)⟩
      · cases e
    · cases e
  | lst xs =>
    simp only at e
    split at e
    · split at e
      · rename_i k' hk
        cases e
        obtain ⟨us, rfl, h1⟩ := ndr_lst hn
        rw [rwI hi]
        exact Or.inr ⟨a, us, _, k', rfl, rfl, ha, by rw [← h1.length]; exact hk, k (.lst (us.set k' v)) (RWs.set hw k' h1)⟩
      · cases e
    · cases e
theorem vg_item (hu : X.A.units + 1 < cLine) (ho : VE X Wx o do_) (hi : VE X Wx i di)
    (ha : ∀ v, assign (.Subscript o i pos) X.env v = (do
      let ov ← holding [v] (eval o X.env)
      let iv ← holding [v, ov] (eval i X.env)
      standAt pos
      holding [v, ov, iv] (setItem ov iv v)
      release [v, ov, iv] []) := by intro _; rfl) : VG X Wx (.Subscript o i pos) (gItem do_ di) := PG_imp (pg_sub ho hi (set_M hu) ha) fun v σ H Q ⟨g0, H0, g, st, x, e0, hr, hz, k⟩ => by
  unfold gItem at k
  cases x with
  | w w =>
    refine ⟨g, st, hr, ok_g e0 k fun t st1 g1 H1 v1 _ e1 r1 z1 k1 => ?_⟩
    refine ⟨g1, st1, r1, ok_gR e0 e1 k1 fun ti st2 g2 H2 v2 _ e2 r2 z2 k2 => ?_⟩
    split at k2
    · rename_i n hn
      split at k2
      · rename_i n' hp
        have ht : RT X.K g2 H2 σ t v1 := z1.1.le e2
        obtain ⟨a, ob, rfl, h1, h2, hf, hup⟩ := mut_rel r2 ht hn
        refine put_read h1 h2 z2.1 (RW.keep (e1.trans e2).fzk hz) hp fun o' ho' => ?_
        have le : Le g2 H2 g2 (upd H2 a o') := Le.upd hf ⟨_, h1⟩
        have lt := (e1.trans e2).trans le
        exact k2 g2 σ _ (e0.trans lt) (hup n' o' ho') lt.fzk fun b ob2 q1 q2 _ => by
          obtain ⟨q3, q4⟩ := lt.no b ob2 (Or.inr q1) q2
          exact ⟨q3.trans q1, q4⟩
      · exact k2.elim
    · exact k2.elim
  | _ => exact k.elim
end
end MV

namespace MV
open PySem PySem.Spec PyProof.Rows L2

structure Wlk where
  ws : List W
  base : Option (Nat × List W) := none
def Wlk.Stay (b : Option (Nat × List W)) (st : FS) : Prop := match b with
  | none => True
  | some (n, ys) => ∃ b, st.s[n]? = some b ∧ b = .con (.lst ys)
def Wk (K : PySem.W.Frag) (g1 : G) (H1 : Hp) (J : It) (b : Option (Nat × List W)) (ws : List W) : Prop := ∀ i g' H' st' σ', Lw g1 H1 g' H' → Rel K g' H' st' σ' → Wlk.Stay b st' →
  (∀ w, ws[i]? = some w → J.go i H' ∧ ∀ x H'', J.yld i H' x H'' → ∃ g'', Le g' H' g'' H'' ∧ Sim g' H' g'' H'' ∧ RW K g'' H'' w x) ∧ (ws.length ≤ i → J.stop i H')
def ZI (K : PySem.W.Frag) : G → Hp → Wlk → It → Prop := fun g H t J => Wk K g H J t.base t.ws
def lI (K : PySem.W.Frag) (Wx : MX) (d : FS → R Wlk) : TI := fun σ H Q => ∃ g st, Rel K g H st σ ∧ Ok K Wx g H σ (ZI K) Q (d st)
def VI (X : Cx) (Wx : MX) (tg it : Expr) (d : FS → R Wlk) : Prop := PI X tg it (lI X.K Wx d)
theorem PI_imp {X : Cx} {tg it : Expr} {t t' : TI} (h : PI X tg it t) (hi : ∀ σ H Q, t' σ H Q → t σ H Q) : PI X tg it t' := ⟨fun pins s σ H Q I q => h.run pins s σ H Q I (hi σ H Q q)⟩

@[simp] def forgetS : List Nat → FS → FS
  | [], st => st
  | i :: is, st => forgetS is (st.setr i .no)
open Classical in
noncomputable def forG (b : Option (Nat × List W)) (dg : Ar → FS → R Unit) (body : FS → R Fl) (fg : List Nat) : List W → FS → R Fl
  | [], st => if Wlk.Stay b st then .ok .nx st else .stuck
  | w :: ws, st => if Wlk.Stay b st then (dg (.w w) st).bind fun _ st1 => (body st1).bind fun f st2 => match f with
    | .nx => forG b dg body fg ws (forgetS fg st2)
    | .cnt => forG b dg body fg ws (forgetS fg st2)
    | .brk => .ok .nx (forgetS fg st2)
    | .ret t => .ok (.ret t) st2 else .stuck
noncomputable def sFor (di : FS → R Wlk) (dg : Ar → FS → R Unit) (body : FS → R Fl) (fg : List Nat) (st : FS) : R Fl := (di st).bind fun t st1 => forG t.base dg body fg t.ws st1
section
variable {K : PySem.W.Frag} {Wx : MX} {g g0 g1 : G} {H H0 H1 : Hp} {σ : L2.St} {st : FS} {D : Ends}
theorem Rel.forgets (fg : List Nat) : ∀ {st : FS}, Rel K g H st σ → Rel K g H (forgetS fg st) σ := by
  induction fg with
  | nil => exact fun h => h
  | cons i is ih => exact fun h => ih (h.forget i)
variable {X : Cx} {tg it : Expr} {di : FS → R Wlk} {dg : Ar → FS → R Unit} {body : FS → R Fl} {sts : List Stmt} {pos : Pos}
theorem vs_for (fg : List Nat) (hp : PassesOwn (model X.prog X.w) X.A X.env X.xe) (hc : X.calm = true) (hi : VI X Wx tg it di) (hg : VG X Wx tg dg) (hb : VSs X Wx sts body) (hs : ∀ x, foldedSetIterable it X.env x = pure x := by intro _; rfl) :
    VS X Wx (.For tg it sts [] pos) (sFor di dg body fg) := PS_imp (ps_for hp hc hi hg hb hs) fun D σ H ⟨g, st, hr, k⟩ => by
  refine ⟨g, st, hr, Ok.stm k fun t st1 g1 H1 J _ e1 r1 z1 k1 => ?_⟩
  -- the invariant: so many are left
  refine ⟨fun i m σ' H' => ∃ g' st', Le g1 H1 g' H' ∧ Rel X.K g' H' st' σ' ∧ m + i = t.ws.length ∧ OkS X.K Wx g H D (forG t.base dg body fg (t.ws.drop i) st'), ⟨t.ws.length, g1, st1, Le.refl _ _, r1, rfl, k1⟩, ?_⟩
  rintro i m σ' H' ⟨g', st', a2, a3, a4, a5⟩
  have stay : Wlk.Stay t.base st' := by
    cases q : t.ws.drop i with
    | nil =>
      rw [q] at a5
      unfold forG at a5
      split at a5
      · assumption
      · exact a5.elim
    | cons w ws =>
      rw [q] at a5
      unfold forG at a5
      split at a5
      · assumption
      · exact a5.elim
  obtain ⟨hgo, hstop⟩ := z1 i g' H' st' σ' a2.lw a3 stay
  by_cases hlt : i < t.ws.length
  · have hd : t.ws.drop i = t.ws[i] :: t.ws.drop (i + 1) := List.drop_eq_getElem_cons hlt
    obtain ⟨go, yl⟩ := hgo t.ws[i] (List.getElem?_eq_getElem hlt)
    rw [hd] at a5
    unfold forG at a5
    rw [if_pos stay] at a5
    refine Or.inr ⟨go, fun σ2 H2 => ∃ g2 st2, Le g1 H1 g2 H2 ∧ Rel X.K g2 H2 st2 σ2 ∧ OkS X.K Wx g H D (forG t.base dg body fg (t.ws.drop (i + 1)) st2), ?_, fun x H'' y => ?_⟩
    · rintro σ2 H2 ⟨g2, st2, b2, b3, b4⟩
      exact ⟨m - 1, by omega, g2, st2, b2, b3, by omega, b4⟩
    · obtain ⟨g'', l1, l2, hw⟩ := yl x H'' y
      have b0 := a2.trans l1
      refine ⟨g1, H1, g'', st', .w t.ws[i], b0, a3.sim l2, hw, ?_⟩
      cases q : dg (.w t.ws[i]) st' with
      | ok u st2 =>
        rw [q] at a5
        intro g2 σ2 H2 c1 c2 c3 c4
        have a6 : OkS X.K Wx g H D ((body st2).bind fun f st3 => match f with
          | .nx => forG t.base dg body fg (t.ws.drop (i + 1)) (forgetS fg st3)
          | .cnt => forG t.base dg body fg (t.ws.drop (i + 1)) (forgetS fg st3)
          | .brk => .ok .nx (forgetS fg st3)
          | .ret t => .ok (.ret t) st3) := a5
        refine ⟨g2, st2, c2, ?_⟩
        cases q2 : body st2 with
        | ok f st3 =>
          rw [q2] at a6
          cases f with
          | nx => exact fun g3 H3 σ3 d1 d2 => ⟨g3, _, c1.trans d1, d2.forgets fg, a6⟩
          | cnt => exact fun g3 H3 σ3 d1 d2 => ⟨g3, _, c1.trans d1, d2.forgets fg, a6⟩
          | brk => exact fun g3 H3 σ3 d1 d2 => a6 g3 H3 σ3 ((e1.trans c1).trans d1) (d2.forgets fg)
          | ret t => exact fun g3 H3 v d1 d2 d3 d4 => a6 g3 H3 v ((e1.trans c1).trans d1) d2 d3 (fre_mono (e1.trans c1) d4)
        | ex c fs st3 =>
          rw [q2] at a6
          exact fun g3 H3 σ3 d d1 d2 d3 => a6 g3 H3 σ3 d ((e1.trans c1).trans d1) d2 d3
        | stuck => rw [q2] at a6; exact a6
      | ex c fs st2 =>
        rw [q] at a5
        exact fun g H d σ e r x => a5 g H σ d (e1.trans e) r x
      | stuck => rw [q] at a5; exact a5
  · have hd : t.ws.drop i = [] := List.drop_eq_nil_of_le (by omega)
    rw [hd] at a5
    unfold forG at a5
    rw [if_pos stay] at a5
    exact Or.inl ⟨hstop (by omega), a5 g' H' σ' (e1.trans a2) a3⟩
end
end MV

namespace MV
open PySem PySem.Spec PyProof.Rows L2


def intsW (lo : Int) (n : Nat) : List W := (List.range n).map fun (i : Nat) => W.int (lo + (i : Int))
def small62 (j : Int) : Prop := -(2 ^ 62) ≤ j ∧ j < 2 ^ 62
instance (j : Int) : Decidable (small62 j) := by unfold small62; infer_instance
@[simp] def iR1 (das : FS → R (List W)) (st : FS) : R Wlk := (das st).bind fun ws st1 => match ws with
  | [.int j] => if small62 j then .ok ⟨intsW 0 j.toNat, none⟩ st1 else .stuck
  | _ => .stuck
section
variable {K : PySem.W.Frag} {Wx : MX} {g1 : G} {H1 : Hp}
theorem ints_len {lo : Int} {n : Nat} : (intsW lo n).length = n := by simp [intsW]
theorem ints_get {lo : Int} {n i : Nat} {w : W} (h : (intsW lo n)[i]? = some w) : i < n ∧ w = .int (lo + (i : Int)) := by
  unfold intsW at h
  rw [List.getElem?_map] at h
  by_cases hi : i < n
  · rw [List.getElem?_range hi] at h
    simp only [Option.map_some, Option.some.injEq] at h
    exact ⟨hi, h.symm⟩
  · rw [List.getElem?_eq_none (by simpa using hi)] at h
    cases h
theorem wk_range {lo : Int} {n : Nat} : Wk K g1 H1 (Itr lo n) none (intsW lo n) := fun i g' H' st' σ' e r p => by
  refine ⟨fun w hw => ?_, fun hi => by rw [ints_len] at hi; exact hi⟩
  obtain ⟨h1, rfl⟩ := ints_get hw
  refine ⟨h1, fun x H'' y => ?_⟩
  obtain ⟨rfl, rfl⟩ := y
  exact ⟨g', Le.refl _ _, Sim.refl _ _, .int _⟩
variable {X : Cx} {tg a b : Expr} {das : FS → R (List W)} {p pos : Pos}
theorem vi_range1 (hg : Gl X "range") (hm : X.mg "range" = none) (ha : VA X Wx [a] das) (hs : starEach [a] X.env = [(false, eval a X.env)] := by rfl) : VI X Wx tg (.Call (.Name "range" p) [a] [] pos) (iR1 das) :=
  PI_imp (pi_range1 hg hm ha hs) fun σ H Q ⟨g, st, hr, k⟩ => by
  refine ⟨g, st, hr, Ok.seq k fun ws st1 g1 H1 vs _ e1 r1 z1 k1 => ?_⟩
  split at k1
  · rename_i j _
    split at k1
    · rename_i hz
      have z : vs = [.int j] := RWs.ints (ns := [j]) z1
      exact ⟨j, z, hz.1, hz.2, (k1.rebase e1).here r1 wk_range⟩
    · exact k1.elim
  · exact k1.elim
end

end MV

namespace MV
open PySem PySem.Spec PyProof.Rows L2

def RTs (K : PySem.W.Frag) (g : G) (H : Hp) (σ : L2.St) : List T → List V → Prop := Paired (RT K g H σ)
def ZTs (K : PySem.W.Frag) (σ : L2.St) : G → Hp → List T → List V → Prop := fun g H t v => RTs K g H σ t v
def lTs (K : PySem.W.Frag) (Wx : MX) (d : FS → R (List T)) : TA := fun σ H Q => ∃ g st, Rel K g H st σ ∧ Ok K Wx g H σ (ZTs K σ) Q (d st)
def VT (X : Cx) (Wx : MX) (es : List Expr) (d : FS → R (List T)) : Prop := PA X es (lTs X.K Wx d)
@[simp] def tN (st : FS) : R (List T) := .ok [] st
@[simp] def tCo (d : FS → R T) (ds : FS → R (List T)) (st : FS) : R (List T) := (d st).bind fun t st1 => (ds st1).bind fun ts st2 => .ok (t :: ts) st2
def BsS (K : PySem.W.Frag) (r : List V → Hp → VK → Prop) (f : List T → FS → R T) : Prop := ∀ (g : G) (H : Hp) (st : FS) (σ : L2.St) (Wx : MX) (Q : VK) (vs : List V) (ts : List T),
  Rel K g H st σ → RTs K g H σ ts vs → Ok K Wx g H σ (ZT K σ g H) Q (f ts st) → r vs H Q
@[simp] def eB (f : List T → FS → R T) (das : FS → R (List T)) (st : FS) : R T := (das st).bind f
section
variable {K : PySem.W.Frag} {Wx : MX} {g g0 g1 g2 : G} {H H0 H1 H2 : Hp} {σ : L2.St} {st : FS}
variable {X : Cx} {x : Str} {p pos : Pos} {id T : String} {e : Expr} {es : List Expr} {d : FS → R MV.T} {ds : FS → R (List MV.T)} {r : List V → Hp → VK → Prop} {f : List MV.T → FS → R MV.T}
theorem vt_nil : VT X Wx [] tN := PA_imp pa_nil fun σ H Q ⟨g, st, hr, k⟩ => k.here hr .nil
theorem vt_cons (h : VE X Wx e d) (hs : VT X Wx es ds) (hx : starEach (e :: es) X.env = (false, eval e X.env) :: starEach es X.env := by rfl) : VT X Wx (e :: es) (tCo d ds) := PA_imp (pa_cons h hs hx) fun σ H Q ⟨g, st, hr, k⟩ => by
  refine ⟨g, st, hr, Ok.seq k fun t st1 g1 H1 v _ e1 r1 z1 k1 => ?_⟩
  refine ⟨g1, st1, r1, Ok.seqR k1 e1 fun ts st2 g2 H2 vs _ e2 r2 z2 k2 => ?_⟩
  exact k2 g2 H2 _ (e1.trans e2) r2 (.cons (z1.1.le e2) z2)
theorem eb_read (hb : BsS X.K r f) {σ : L2.St} {H : Hp} {Q : VK} (h : lE X.K Wx (eB f ds) σ H Q) : tCB r (lTs X.K Wx ds) σ H Q := by
  obtain ⟨g, st, hr, k⟩ := h
  refine ⟨g, st, hr, Ok.seq k fun ts st1 g1 H1 vs _ e1 r1 z1 k1 => ?_⟩
  exact hb g1 H1 st1 σ Wx Q vs ts r1 z1 (k1.rebaseT e1)
theorem ve_b (hc : CallR X (.builtin id) r) (hb : BsS X.K r f) (hg : Gl X x) (hm : X.mg x = none) (hv : bootBuiltins x = some (.builtin id)) (ha : VT X Wx (e :: es) ds) (hn : x ≠ "__name__" := by decide) (hdb : (x == ("__debug__" : Str)) = false := by decide)
    (he : starEach (e :: es) X.env = (false, eval e X.env) :: starEach es X.env := by rfl) (hpl : (backTo pos (starEach es X.env)).any (·.1) = false := by rfl) : VE X Wx (.Call (.Name x p) (e :: es) [] pos) (eB f ds) :=
  PE_imp (pe_callB hc hg hm hv ha hn hdb he hpl) fun _ _ _ h => eb_read hb h
end

@[simp] def bLen (ts : List T) (st : FS) : R T := match ts with
  | [.w (.str x)] => if x.length ≤ sizeLine then .ok (.w (.int x.length)) st else .stuck
  | [t] => (match seqOf st t with
    | some xs => .ok (.w (.int xs.length)) st
    | none => (match dicOf st t with
      | some kvs => .ok (.w (.int kvs.length)) st
      | none => .stuck))
  | _ => .stuck
def rLenM (K : PySem.W.Frag) : List V → Hp → VK → Prop := fun xs H Q => (∃ x n, xs = [x] ∧ LenV K x H n ∧ Q (.int n) H) ∨ (∃ a kvs, xs = [V.ref a] ∧ H a = some (.dK kvs) ∧ Q (.int (kvs.length : Nat)) H)
theorem call_lenM {X : Cx} : CallR X (.builtin "len") (rLenM X.K) := CallR.or call_len call_lenD
theorem bs_len {K : PySem.W.Frag} : BsS K (rLenM K) bLen := by
  intro g H st σ Wx Q vs ts hr hx k
  unfold bLen at k
  split at k
  · rename_i x
    cases hx with
    | cons h t =>
      cases t
      rw [rwS h]
      split at k
      · rename_i hz
        exact Or.inl ⟨_, _, rfl, ⟨hz, rfl⟩, ok_w k hr (.int _)⟩
      · exact k.elim
  · rename_i t _
    cases hx with
    | cons h tl =>
      cases tl
      split at k
      · rename_i xs q
        obtain ⟨a, vs, rfl, h1, h2⟩ := seq_of hr h q
        rw [h2.length] at k
        refine Or.inl ⟨_, vs.length, rfl, ?_, ok_w k hr (.int _)⟩
        rcases h1 with h1 | h1
        · exact Or.inl ⟨_, h1, rfl⟩
        · exact Or.inr ⟨_, h1, rfl⟩
      · split at k
        · rename_i kvs q
          obtain ⟨a, hvs, rfl, h1, h2, h3⟩ := dic_of hr h q
          have hl : kvs.length = hvs.length := by simpa using h3.length
          rw [hl] at k
          exact Or.inr ⟨a, hvs, rfl, h1, ok_w k hr (.int _)⟩
        · exact k.elim
  · exact k.elim


@[simp] def bAbs (ts : List T) (st : FS) : R T := match ts with
  | [.w (.int i)] => .ok (.w (.int (if i < 0 then -i else i))) st
  | _ => .stuck

@[simp] def reprW : W → Option Str
  | .non => some "None"
  | .bl b => some (if b then "True" else "False")
  | .int i => if i.natAbs.log2 < 1920 then some (toString i) else none
  | .str x => if (reprText x).length ≤ sizeLine then some (reprText x) else none
  | _ => none
@[simp] def bRepr (ts : List T) (st : FS) : R T := match ts with
  | [.w w] => (match reprW w with
    | some x => .ok (.w (.str x)) st
    | none => .stuck)
  | _ => .stuck
def rReprM : List V → Hp → VK → Prop := fun xs H Q => (xs = [.non] ∧ Q (.str "None") H) ∨ (∃ b, xs = [.bl b] ∧ Q (.str (if b then "True" else "False")) H) ∨ (∃ i, xs = [.int i] ∧ i.natAbs.log2 < 1920 ∧ Q (.str (toString i)) H) ∨
  (∃ x, xs = [.str x] ∧ (reprText x).length ≤ sizeLine ∧ Q (.str (reprText x)) H)
section
variable {X : Cx} {K : PySem.W.Frag}
theorem call_reprM : CallR X (.builtin "repr") rReprM := by
  intro pins s σ H xs us Q I r h
  rcases h with ⟨rfl, q⟩ | ⟨b, rfl, q⟩ | ⟨i, rfl, hz, q⟩ | ⟨x, rfl, hz, q⟩
  · obtain ⟨u, rfl, t⟩ := vals1 r
    cases (show u = Value.none from t)
    exact PySem.P.repr_of_none ⟨.str _, H, I.tok _, ⟨_, rfl⟩, q⟩
  · obtain ⟨u, rfl, t⟩ := vals1 r
    cases (show u = Value.bool b from t)
    exact PySem.P.repr_of_bool ⟨.str _, H, I.tok _, ⟨_, rfl⟩, q⟩
  · obtain ⟨u, rfl, t, rfl⟩ := vals1 r
    exact PySem.P.repr_of_int hz ⟨.str _, H, I.tok _, ⟨_, rfl⟩, q⟩
  · obtain ⟨u, rfl, t, rfl⟩ := vals1 r
    exact PySem.P.repr_of_str ⟨.str _, H, I.tok _, ⟨_, rfl⟩, q⟩ hz
theorem bs_repr : BsS K rReprM bRepr := by
  intro g H st σ Wx Q vs ts hr hx k
  unfold bRepr at k
  split at k
  · rename_i w
    cases hx with
    | cons h tl =>
      cases tl
      split at k
      · rename_i x q
        cases w with
        | non => cases q; rw [rwN h]; exact Or.inl ⟨rfl, ok_w k hr (.str _)⟩
        | bl b => cases q; rw [rwB h]; exact Or.inr (Or.inl ⟨_, rfl, ok_w k hr (.str _)⟩)
        | int i =>
          simp only [reprW] at q
          split at q
          · rename_i hz
            cases q; rw [rwI h]; exact Or.inr (Or.inr (Or.inl ⟨_, rfl, hz, ok_w k hr (.str _)⟩))
          · cases q
        | str i =>
          simp only [reprW] at q
          split at q
          · rename_i hz
            cases q; rw [rwS h]; exact Or.inr (Or.inr (Or.inr ⟨_, rfl, hz, ok_w k hr (.str _)⟩))
          · cases q
        | _ => cases q
      · exact k.elim
  · exact k.elim
end

@[simp] def eNeg (d : FS → R T) (st : FS) : R T := (d st).bind fun t st1 => match t with
  | .w (.int i) => .ok (.w (.int (-i))) st1
  | _ => .stuck
theorem ve_neg {X : Cx} {Wx : MX} {a : Expr} {d : FS → R T} {pos : Pos} (h : VE X Wx a d) : VE X Wx (.UnaryOp .USub a pos) (eNeg d) := PE_imp (pe_un un_neg h) fun σ H Q ⟨g, st, hr, k⟩ => by
  refine ⟨g, st, hr, Ok.seq k fun t st1 g1 H1 v1 _ e1 r1 z1 k1 => ?_⟩
  split at k1
  · rw [rwI z1.1]
    exact ⟨_, rfl, ok_w (k1.rebaseT e1) r1 (.int _)⟩
  · exact k1.elim

@[simp] def dN (st : FS) : R (List (Key × W)) := .ok [] st
@[simp] def keyW (w : W) : Option Key := keyOf (.w w)
@[simp] def dC (dk dv : FS → R W) (ds : FS → R (List (Key × W))) (st : FS) : R (List (Key × W)) := (dk st).bind fun k st1 => (dv st1).bind fun v st2 => match keyW k with
  | some k' => (ds st2).bind fun kvs st3 => .ok ((k', v) :: kvs) st3
  | none => .stuck
@[simp] def mrgW (kvs more : List (Key × W)) : List (Key × W) := more.foldl (fun acc kv => setK acc kv.1 kv.2) kvs
@[simp] def eDisp (ds : FS → R (List (Key × W))) (st : FS) : R T := (ds st).bind fun kvs st1 => if kvs.length ≤ 15 then .ok (.new (.dic (mrgW [] kvs))) st1 else .stuck

section
variable {K : PySem.W.Frag} {Wx : MX} {g g0 g1 : G} {H H0 H1 : Hp} {σ : L2.St} {st : FS}
theorem Le.wr {p : Addr} {o : HO} (e : Le g0 H0 g H) (hp : Free g0 H0 p) : Le g0 H0 g (L2.upd H p o) :=
  ⟨e.n, e.m, fun a u h q => by
    have ne : a ≠ p := fun z => by subst z; exact (hp u q).1 h
    rw [upd_ne ne]
    exact e.fz a u h q, fun a u h q => by
    have ne : a ≠ p := fun z => by
      subst z
      rcases h with h | h
      · exact (hp u q).2.1 h
      · exact (hp u q).2.2 h
    rw [upd_ne ne]
    exact e.no a u h q, fun a h => by
    by_cases z : a = p
    · subst z; rw [upd_same] at h; cases h
    · rw [upd_ne z] at h; exact e.dom a h⟩
theorem Sim.wr {p : Addr} {o : HO} (hp : g.tg p = .tmp) : Sim g H g (L2.upd H p o) := ⟨rfl, rfl, fun a u e h => by
  have ne : a ≠ p := fun z => h (by rw [z]; exact hp)
  exact ⟨rfl, by rw [upd_ne ne]; exact e⟩⟩
def KVs (K : PySem.W.Frag) (g : G) (H : Hp) (kvs : List (Key × W)) (hvs : List (Key × V)) : Prop := kvs.map (·.1) = hvs.map (·.1) ∧ RWs K g H (kvs.map (·.2)) (hvs.map (·.2))
theorem kvs_fold : ∀ {more : List (Key × W)} {hm : List (Key × V)} {kvs : List (Key × W)} {hvs : List (Key × V)}, KVs K g H kvs hvs → KVs K g H more hm → KVs K g H (more.foldl (fun acc kv => setK acc kv.1 kv.2) kvs) (mergeK hvs hm)
  | [], [], _, _, h, _ => h
  | [], _ :: _, _, _, _, h => by cases h.1
  | _ :: _, [], _, _, _, h => by cases h.1
  | (k, w) :: more, (k', v) :: hm, kvs, hvs, h, q => by
    obtain ⟨q1, q2⟩ := q
    simp only [List.map_cons, List.cons.injEq] at q1
    obtain ⟨rfl, q1⟩ := q1
    cases q2 with
    | cons q2 q3 => exact kvs_fold (more := more) (hm := hm) (set_rel q2 h.1 h.2) ⟨q1, q3⟩
def ZKV (K : PySem.W.Frag) : G → Hp → List (Key × W) → List (V × V) → Prop := fun g H kvs ps => ∃ hvs : List (Key × V), ps = hvs.map (fun kv => (kV kv.1, kv.2)) ∧ KVs K g H kvs hvs
def lP (K : PySem.W.Frag) (Wx : MX) (d : FS → R (List (Key × W))) : L2.St → Hp → (List (V × V) → Hp → Prop) → Prop := fun σ H Q => ∃ g st, Rel K g H st σ ∧ Ok K Wx g H σ (ZKV K) Q (d st)
def VP (X : Cx) (Wx : MX) (pos : Pos) (ks : List (Option Expr)) (vs : List Expr) (d : FS → R (List (Key × W))) : Prop := ∃ trs, PPs X pos ks vs trs ∧ ∀ σ H Q, lP X.K Wx d σ H Q → tPairs trs σ H Q
variable {X : Cx} {pos : Pos} {k v : Expr} {ks : List (Option Expr)} {vs : List Expr} {dk dv : FS → R W} {ds : FS → R (List (Key × W))}
theorem vp_nil : VP X Wx pos [] [] dN := ⟨_, pps_nil, fun σ H Q ⟨g, st, hr, k⟩ => k.here hr ⟨[], rfl, rfl, .nil⟩⟩
theorem keyW_of {w : W} {v : V} {k : Key} (h : RW K g H w v) (e : keyW w = some k) : v = kV k := by
  exact key_of_t (σ := []) (t := .w w) h e
theorem vp_cons (hk : VW X Wx k dk) (hv : VW X Wx v dv) (hs : VP X Wx pos ks vs ds) : VP X Wx pos (some k :: ks) (v :: vs) (dC dk dv ds) := by
  obtain ⟨trs, h1, h2⟩ := hs
  refine ⟨_, pps_cons hk hv h1, fun σ H Q ⟨g, st, hr, k⟩ => ?_⟩
  refine ⟨g, st, hr, Ok.seq k fun w st1 g1 H1 v1 _ e1 r1 z1 k1 => ?_⟩
  refine ⟨g1, st1, r1, Ok.seqR k1 e1 fun w2 st2 g2 H2 v2 _ e2 r2 z2 k2 => ?_⟩
  split at k2
  · rename_i k' q
    have e3 := e1.trans e2
    refine h2 σ H2 _ ⟨g2, st2, r2, Ok.seqR k2 e3 fun kvs st3 g3 H3 ps _ e4 r3 z3 k3 => ?_⟩
    obtain ⟨hvs, rfl, z4, z5⟩ := z3
    have hv := keyW_of z1 q
    subst hv
    exact k3 g3 H3 _ (e3.trans e4) r3 ⟨(k', v2) :: hvs, rfl, by rw [List.map_cons, List.map_cons, z4], .cons (RW.keep e4.fzk z2) z5⟩
  · exact k2.elim
theorem ve_disp (h : VP X Wx pos ks vs ds) (hall : ks.all (·.isSome) = true := by rfl) (hl : ks.length = vs.length := by rfl) (h0 : ks ≠ [] := by exact fun z => nomatch z) (h15 : ks.length ≤ 15 := by decide) : VE X Wx (.Dict ks vs pos) (eDisp ds) := by
  obtain ⟨trs, h1, h2⟩ := h
  refine PE_imp (pe_disp h1 hall hl h0 h15) fun σ H Q ⟨g, st, hr, k⟩ p hp => ?_
  have L : Le g H (g.set p .tmp) (upd H p (.dK [])) := Le.new hp
  refine h2 σ _ _ ⟨g.set p .tmp, st, hr.sim (Sim.new hp), Ok.seqR k L fun kvs st1 g1 H1 ps _ e1 r1 z1 k1 => ?_⟩
  obtain ⟨hvs, rfl, z2, z3⟩ := z1
  split at k1
  · rename_i hz
    have hln : kvs.length = hvs.length := by simpa using z3.length
    obtain ⟨t1, t2⟩ := e1.no p _ (Or.inr G.set_same) upd_same
    have t3 : g1.tg p = .tmp := t1.trans G.set_same
    refine ⟨t2, hvs, rfl, by omega, ?_⟩
    have s := Sim.wr (H := H1) (o := .dK (mergeK [] hvs)) t3
    have hf : Free g H p := Free.none hp
    have hk := kvs_fold (K := X.K) (g := g1) (H := H1) (kvs := []) (hvs := []) ⟨rfl, .nil⟩ ⟨z2, z3⟩
    exact k1 g1 _ _ ((L.trans e1).wr hf) (r1.sim s) ⟨⟨p, _, rfl, t3, upd_same, hk.1, RWs.keep s.fzk hk.2⟩, fun _ _ a z => by cases z; exact hf⟩
  · exact k1.elim
end
end MV

namespace MV
open PySem PySem.Spec PyProof.Rows L2

def cvOf (mg : Str → Option Value) (x : Ec) : Value := (mg x.s).getD .none
def DefOk (cv : Ec → Value) (P : Program) (w : World) (K : PySem.W.Frag) (mg : Str → Option Value) (base : Heap) (L : Nat) (x : Str) (ps : List Str) (n : Nat) (fn : Fn) (dv : List W) : Prop :=
  ∃ (f : Addr) (fd : FuncData) (dvs : List V) (ds : List Value), mg x = some (.ref f) ∧ PySem.W.keepIn K (.ref f) = true ∧ Binds K fd ps ds ∧ Vals dvs ds ∧ dv.map cV = dvs.map some ∧
    ∀ k, L ≤ k → FnG P w K mg base (L2N.CX P w) k f fd ps (spF cv K n fn)
theorem takes_cv {X : Cx} {cv : Ec → Value} {E : XK} (h : L2N.Takes X (fun c d _ H => E c d H)) : L2N.Takes X (toWX cv fun c d _ H => E (cv c) d H) := by
  rintro u s' ⟨a, B, sI, pins, σ, H, cls, d, e, I, nb, up, sky, na, os, ag, w⟩
  obtain ⟨c, rfl, w⟩ := w
  exact h u s' ⟨a, B, sI, pins, σ, H, _, d, e, I, nb, up, sky, na, os, ag, w⟩
theorem fnOk_of {cv : Ec → Value} {P : Program} {w : World} {K : PySem.W.Frag} {mg : Str → Option Value} {base : Heap} {L n : Nat} {x qual : Str} {params : Arguments} {body : List Stmt} {scope : Scope} {dvs : List V} {kws : List (Str × V)} {f : Addr} {fd : FuncData} {N ps : List Str} {d : FS → R Fl}
    (F : FunD K x qual params body scope dvs kws f fd) (S : FnScope N ps scope) (hn : ps.length = n)
    (hb : ∀ k, L ≤ k → ∀ (cdv : Value) (A : Around) (outer : List Env) (s : Shared) (H : Hp) (E : XK), Room k (A.deeper (envOfC qual scope s.heap.objs.size f cdv)) → A.guards = some [] →
      L2N.Takes (cxOf (L2N.CX P w) P w K mg base N qual scope f cdv A outer s H E) (toWX cv fun c d _ H => E (cv c) d H) → PassesOwn (model P w) (A.deeper (envOfC qual scope s.heap.objs.size f cdv)) (envOfC qual scope s.heap.objs.size f cdv) (cxOf (L2N.CX P w) P w K mg base N qual scope f cdv A outer s H E).xe →
      VSs (cxOf (L2N.CX P w) P w K mg base N qual scope f cdv A outer s H E) (fun c d _ H => E (cv c) d H) body d) (k : Nat) (hk : L + 1 ≤ k) : FnG P w K mg base (L2N.CX P w) k f fd ps (spF cv K n (fnOf N.length d)) := by
  cases k with
  | zero => omega
  | succ k => exact fn_ok F S hn fun cdv A outer s H E hr hgd => hb k (by omega) cdv A outer s H E hr hgd (takes_cv (L2N.takes_of rfl rfl rfl rfl)) (passes_of (X := cxOf (L2N.CX P w) P w K mg base N qual scope f cdv A outer s H E) rfl)
theorem defOk_of {cv : Ec → Value} {P : Program} {w : World} {K : PySem.W.Frag} {mg : Str → Option Value} {base : Heap} {L n : Nat} {x : Str} {qual : Str} {params : Arguments} {body : List Stmt} {scope : Scope} {dvs : List V} {kws : List (Str × V)} {f : Addr} {fd : FuncData} {ps : List Str} {dv : List W} {fn : Fn} {ds : List Value}
    (F : FunD K x qual params body scope dvs kws f fd) (g : mg x = some (.ref f)) (hbi : Binds K fd ps ds) (hv : Vals dvs ds) (hc : dv.map cV = dvs.map some) (h : ∀ k, L ≤ k → FnG P w K mg base (L2N.CX P w) k f fd ps (spF cv K n fn)) : DefOk cv P w K mg base L x ps n fn dv :=
  ⟨f, fd, dvs, ds, g, F.kp, hbi, hv, hc, h⟩
section
variable {X : Cx} {Wx : MX} {x : Str} {p pos : Pos} {e : Expr} {es : List Expr} {das : FS → R (List Ar)} {k L n m : Nat} {ps : List Str} {fn : Fn} {dv : List W}
theorem ve_own {cv : Ec → Value} (D : DefOk cv X.prog X.w X.K X.mg X.base L x ps n fn dv) (hk : L ≤ k) (hr : Room k X.A) (hgd : X.A.guards = some []) (hg : Gl X x)
    (tk : L2N.Takes X (toWX cv Wx)) (ha : VAr X Wx (e :: es) das) (hl : Len m das) (hn : m + dv.length = n := by rfl) (hdb : (x == ("__debug__" : Str)) = false := by decide) (he : starEach (e :: es) X.env = (false, eval e X.env) :: starEach es X.env := by rfl) (hpl : (backTo pos (starEach es X.env)).any (·.1) = false := by rfl) :
    VE X Wx (.Call (.Name x p) (e :: es) [] pos) (eCall fn dv das) := by
  obtain ⟨f, fd, dvs, ds, h1, h2, h3, h4, h5, h6⟩ := D
  exact ve_call (h6 k hk) hr hgd hg h1 h2 h3 h4 h5 tk ha hl hn hdb he hpl
end

theorem sp_law {cv : Ec → Value} {K : PySem.W.Frag} {F : Fn} {ns : List Int} (h : ∃ st, F [.val (.rol (ns.map W.int))] [] = .ok (.w (.bl true)) st) (H : Hp) (a : Addr) (hs : SqL K H a (ns.map V.int)) :
    spF cv K 1 F [.ref a] H (fun v _ => v = .bl true) fun _ _ _ => False := by
  obtain ⟨st, e⟩ := h
  refine ⟨rfl, ⟨fun _ => .fz, fun _ => a, 0⟩, [], [.val (.rol (ns.map W.int))], ⟨rfl, fun j b hb => by simp at hb⟩, ⟨⟨_, rfl, .rol ?_ RWs.of_ints⟩, trivial⟩, ?_⟩
  · rcases hs with hs | hs
    · exact Or.inl ⟨rfl, hs⟩
    · exact Or.inr fun _ => Or.inr hs
  · rw [e]
    intro g' H' v _ _ ht _
    cases (show RW K g' H' (.bl true) v from ht)
    rfl

theorem hu65_of {A : Around} {k : Nat} (hr : Room k A) : A.units + 65 < cLine := by have := hr.un; omega
theorem boot_len : bootBuiltins "len" = some (.builtin "len") := by decide +kernel
theorem boot_repr : bootBuiltins "repr" = some (.builtin "repr") := by decide +kernel
theorem boot_isinstance : bootBuiltins "isinstance" = some (.builtin "isinstance") := by decide +kernel

abbrev pLt (i j : Int) : Bool := decide (i < j)
abbrev pLe (i j : Int) : Bool := decide (i ≤ j)
abbrev pGt (i j : Int) : Bool := decide (i > j)
abbrev pGe (i j : Int) : Bool := decide (i ≥ j)
end MV

namespace MV
open PySem PySem.Spec PyProof.Rows L2

@[simp] def wS : List Nat → FS → FS
  | [], st => st
  | v :: vs, st => (wS vs st).setr v .no
section
variable {K : PySem.W.Frag} {g g0 g1 g2 : G} {H H0 H1 H2 : Hp} {σ : L2.St} {st : FS}
theorem set_none_rel (hr : Rel K g H st σ) (i : Nat) : Rel K g H (st.setr i .no) (σ.set i none) := by
  by_cases hi : i < σ.length
  · exact hr.setr hi True.intro
  · have h1 : st.setr i .no = st := by
      unfold FS.setr
      rw [List.set_eq_of_length_le (by rw [hr.len]; omega)]
    rw [h1, List.set_eq_of_length_le (by omega)]
    exact hr
theorem wS_rel (hr : Rel K g H st σ) : ∀ vs : List Nat, Rel K g H (wS vs st) (wipe σ vs)
  | [] => hr
  | v :: vs => set_none_rel (wS_rel hr vs) v
theorem wS_forget (hr : Rel K g H st σ) : ∀ vs : List Nat, Rel K g H (wS vs st) σ
  | [] => hr
  | v :: vs => (wS_forget hr vs).forget v
theorem wS_s : ∀ vs : List Nat, (wS vs st).s = st.s
  | [] => rfl
  | v :: vs => wS_s vs
theorem wS_no {x : Sl} {j : Nat} : ∀ {vs : List Nat}, j ∈ vs → (wS vs st).r[j]? = some x → x = .no
  | v :: vs, hj, e => by
    have e' : ((wS vs st).r.set v .no)[j]? = some x := e
    by_cases h : j = v
    · subst h
      have hl : j < (wS vs st).r.length := by
        have := (List.getElem?_eq_some_iff.mp e').1
        rw [List.length_set] at this
        exact this
      rw [List.getElem?_set_self hl] at e'
      exact (Option.some.inj e').symm
    · rw [List.getElem?_set_ne (Ne.symm h)] at e'
      rcases List.mem_cons.mp hj with z | z
      · exact absurd z h
      · exact wS_no z e'
theorem set_no_same {r : List Sl} {v : Nat} (h : ∀ x, r[v]? = some x → x = .no) : r.set v .no = r := by
  apply List.ext_getElem? 
  intro j
  by_cases e : j = v
  · subst e
    by_cases hl : j < r.length
    · rw [List.getElem?_set_self hl, List.getElem?_eq_getElem hl, h _ (List.getElem?_eq_getElem hl)]
    · rw [List.set_eq_of_length_le (by omega)]
  · rw [List.getElem?_set_ne (Ne.symm e)]
theorem wS_same {r : List Sl} {s : List Ob} : ∀ {vs : List Nat}, (∀ j ∈ vs, ∀ x, r[j]? = some x → x = .no) → wS vs ⟨r, s⟩ = ⟨r, s⟩
  | [], _ => rfl
  | v :: vs, h => by
    have ih := wS_same (r := r) (s := s) (vs := vs) fun j hj => h j (List.mem_cons_of_mem _ hj)
    show (wS vs ⟨r, s⟩).setr v .no = _
    rw [ih]
    show (⟨r.set v .no, s⟩ : FS) = _
    rw [set_no_same (h v List.mem_cons_self)]
theorem wipe_ne {j : Nat} : ∀ {vs : List Nat}, j ∉ vs → (wipe σ vs)[j]? = σ[j]?
  | [], _ => rfl
  | v :: vs, h => by
    have h1 : j ≠ v := fun z => h (z ▸ List.mem_cons_self)
    show ((wipe σ vs).set v none)[j]? = _
    rw [List.getElem?_set_ne (Ne.symm h1)]
    exact wipe_ne fun z => h (List.mem_cons_of_mem _ z)
theorem unwipe {vs : List Nat} {r : List Sl} {s : List Ob} (hn : ∀ j ∈ vs, ∀ x, r[j]? = some x → x = .no) (hr : Rel K g H ⟨r, s⟩ (wipe σ vs)) : Rel K g H ⟨r, s⟩ σ := by
  refine ⟨by rw [hr.len, wipe_length], fun j x e => ?_, hr.ob⟩
  by_cases hj : j ∈ vs
  · have := hn j hj x e
    subst this
    have hl : j < σ.length := by
      have h1 := (List.getElem?_eq_some_iff.mp e).1
      have h2 : r.length = (wipe σ vs).length := hr.len
      rw [wipe_length] at h2
      have h3 : j < r.length := h1
      omega
    exact ⟨σ[j], List.getElem?_eq_getElem hl, True.intro⟩
  · obtain ⟨o, h1, h2⟩ := hr.sl j x e
    exact ⟨o, by rw [← wipe_ne hj]; exact h1, h2⟩
theorem wipe_in {j : Nat} : ∀ {us : List Nat} {τ : L2.St}, j ∈ us → (wipe τ us)[j]? = if j < τ.length then some none else none
  | u :: us, τ, z => by
    show ((wipe τ us).set u none)[j]? = _
    by_cases eu : j = u
    · subst eu
      by_cases hl : j < τ.length
      · rw [if_pos hl, List.getElem?_set_self (by rw [wipe_length]; exact hl)]
      · rw [if_neg hl, List.getElem?_eq_none (by rw [List.length_set, wipe_length]; omega)]
    · rw [List.getElem?_set_ne (Ne.symm eu)]
      rcases List.mem_cons.mp z with z | z
      · exact absurd z eu
      · exact wipe_in z
theorem wipe_set {i : Nat} {o : Option V} {vs : List Nat} (h : i ∈ vs) : wipe (σ.set i o) vs = wipe σ vs := by
  apply List.ext_getElem?
  intro j
  by_cases hj : j ∈ vs
  · rw [wipe_in hj, wipe_in hj, List.length_set]
  · have e : i ≠ j := fun z => hj (z ▸ h)
    rw [wipe_ne hj, wipe_ne hj, List.getElem?_set_ne e]
theorem wipe_wipe {vs : List Nat} : wipe (wipe σ vs) vs = wipe σ vs := by
  apply List.ext_getElem?
  intro j
  by_cases hj : j ∈ vs
  · rw [wipe_in hj, wipe_in hj, wipe_length]
  · rw [wipe_ne hj]
end

inductive TgB where
  | nm (i : Nat) | tp (ts : List TgB)
mutual
@[simp] def setB : TgB → W → FS → Option FS
  | .nm i, w, st => if i < st.r.length then some (st.setr i (.val w)) else none
  | .tp ts, .tup ws, st => setBs ts ws st
  | _, _, _ => none
@[simp] def setBs : List TgB → List W → FS → Option FS
  | [], [], st => some st
  | t :: ts, w :: ws, st => (setB t w st).bind fun st1 => setBs ts ws st1
  | _, _, _ => none
def ixB : TgB → List Nat
  | .nm i => [i]
  | .tp ts => ixBs ts
def ixBs : List TgB → List Nat
  | [] => []
  | t :: ts => ixB t ++ ixBs ts
def rdB (K : PySem.W.Frag) : TgB → TG
  | .nm i => gName i
  | .tp ts => gTup K ts.length (rdBs K ts)
def rdBs (K : PySem.W.Frag) : List TgB → TGs
  | [] => gNil
  | t :: ts => gCons (rdB K t) (rdBs K ts)
end
section
variable {K : PySem.W.Frag} {g : G} {H : Hp} {vs : List Nat}
mutual
theorem rdB_ok : ∀ (t : TgB) {w : W} {v : V} {st st' : FS} {σ : L2.St} {Q : L2.St → Hp → Prop}, RW K g H w v → setB t w st = some st' → Rel K g H st σ → (∀ i ∈ ixB t, i ∈ vs) → (∀ σ', Rel K g H st' σ' → wipe σ' vs = wipe σ vs → Q σ' H) → rdB K t v σ H Q
  | .nm i, w, v, st, st', σ, Q, hw, e, hr, hi, k => by
    unfold setB at e
    split at e
    · rename_i hl
      cases e
      have := k (σ.set i (some v)) (hr.setr (by rw [← hr.len]; exact hl) ⟨v, rfl, hw⟩) (wipe_set (hi i (by simp [ixB])))
      exact this
    · cases e
  | .tp ts, w, v, st, st', σ, Q, hw, e, hr, hi, k => by
    cases w with
    | tup ws =>
      unfold setB at e
      obtain ⟨a, us, rfl, h1, h2⟩ := rw_tup hw
      obtain ⟨h3, h4⟩ := rdBs_ok ts h2 e hr (fun i hj => hi i (by unfold ixB; exact hj)) k
      exact ⟨a, us, rfl, h1, h3, h4⟩
    | _ => unfold setB at e; cases e
theorem rdBs_ok : ∀ (ts : List TgB) {ws : List W} {us : List V} {st st' : FS} {σ : L2.St} {Q : L2.St → Hp → Prop}, RWs K g H ws us → setBs ts ws st = some st' → Rel K g H st σ → (∀ i ∈ ixBs ts, i ∈ vs) → (∀ σ', Rel K g H st' σ' → wipe σ' vs = wipe σ vs → Q σ' H) → us.length = ts.length ∧ rdBs K ts us σ H Q
  | [], ws, us, st, st', σ, Q, hw, e, hr, hi, k => by
    cases hw with
    | nil =>
      unfold setBs at e
      cases e
      exact ⟨rfl, rfl, k σ hr rfl⟩
    | cons => unfold setBs at e; cases e
  | t :: ts, ws, us, st, st', σ, Q, hw, e, hr, hi, k => by
    cases hw with
    | nil => unfold setBs at e; cases e
    | @cons w v ws us h1 h2 =>
      unfold setBs at e
      simp only [Option.bind_eq_some_iff] at e
      obtain ⟨st1, e1, e2⟩ := e
      have hl : us.length = ts.length := by
        have : ∀ (ts : List TgB) {ws : List W} {us : List V} {st st' : FS}, RWs K g H ws us → setBs ts ws st = some st' → us.length = ts.length := by
          intro ts
          induction ts with
          | nil =>
            intro ws us st st' h e
            cases h with
            | nil => rfl
            | cons => unfold setBs at e; cases e
          | cons t ts ih =>
            intro ws us st st' h e
            cases h with
            | nil => unfold setBs at e; cases e
            | cons h1 h2 =>
              unfold setBs at e
              simp only [Option.bind_eq_some_iff] at e
              obtain ⟨st1, _, e2⟩ := e
              simp [ih h2 e2]
        exact this ts h2 e2
      refine ⟨by simp [hl], v, us, rfl, rdB_ok t h1 e1 hr (fun i hj => hi i (by unfold ixBs; exact List.mem_append_left _ hj)) fun σ1 r1 w1 => ?_⟩
      exact (rdBs_ok ts h2 e2 r1 (fun i hj => hi i (by unfold ixBs; exact List.mem_append_right _ hj)) fun σ2 r2 w2 => k σ2 r2 (w2.trans w1)).2
end
end

def WF : MX := fun _ _ _ _ => False
def noX {α : Type} : R α → R α
  | .ok a st => .ok a st
  | _ => .stuck
open Classical in
noncomputable def lcG (tb : TgB) (dc : FS → R Bool) (de : FS → R W) (vs : List Nat) (b : Option (Nat × List W)) (r0 : List Sl) : List W → List W → List Ob → R (List W)
  | [], acc, s => if Wlk.Stay b ⟨r0, s⟩ then .ok acc ⟨r0, s⟩ else .stuck
  | w :: ws, acc, s => if Wlk.Stay b ⟨r0, s⟩ then (match setB tb w ⟨r0, s⟩ with
    | none => .stuck
    | some st1 => (noX (dc st1)).bind fun c st2 => if c = true then (noX (de st2)).bind fun x st3 => if (wS vs st3).r = r0 ∧ acc.length < sizeLine then lcG tb dc de vs b r0 ws (acc ++ [x]) st3.s else .stuck
      else if (wS vs st2).r = r0 then lcG tb dc de vs b r0 ws acc st2.s else .stuck) else .stuck
noncomputable def eLc (di : FS → R Wlk) (tb : TgB) (dc : FS → R Bool) (de : FS → R W) (vs : List Nat) (st : FS) : R T := (di st).bind fun t st1 =>
  (lcG tb dc de vs t.base (wS vs st1).r t.ws [] st1.s).bind fun xs st3 => .ok (.new (.lst xs)) st3
section
variable {K : PySem.W.Frag} {Wx : MX} {g g0 g1 g2 : G} {H H0 H1 H2 : Hp} {σ σ0 : L2.St} {st : FS}
theorem okX {α β γ δ : Type} {r : R α} {f : α → FS → R γ} {Z : G → Hp → α → β → Prop} {Z2 : G → Hp → γ → δ → Prop} {Q2 : δ → Hp → Prop} {Qm : β → Hp → Prop}
    (h : Ok K Wx g0 H0 σ0 Z2 Q2 ((noX r).bind f)) (k : ∀ t st1 g2 H2 v, r = .ok t st1 → Le g1 H1 g2 H2 → Rel K g2 H2 st1 σ → Z g2 H2 t v → Ok K Wx g0 H0 σ0 Z2 Q2 (f t st1) → Qm v H2) : Ok K WF g1 H1 σ Z Qm r := by
  cases r with
  | ok t st => exact fun g2 H2 v e1 r1 z1 => k t st g2 H2 v rfl e1 r1 z1 h
  | ex c fs st => exact h.elim
  | stuck => exact h.elim
theorem lc_core1 {J : It} {ws : List W} {b : Option (Nat × List W)} {st1 : FS} {tb : TgB} {dc : FS → R Bool} {de : FS → R W} {vs : List Nat} (hix : ∀ i ∈ ixB tb, i ∈ vs) {Q : VK} (e1 : Le g H g1 H1) (r1 : Rel K g1 H1 st1 σ)
    (z1 : ∀ i g' H' s', Le g1 H1 g' H' → Rel K g' H' ⟨(wS vs st1).r, s'⟩ σ → Wlk.Stay b ⟨(wS vs st1).r, s'⟩ → (∀ w, ws[i]? = some w → J.go i H' ∧ ∀ x H'', J.yld i H' x H'' → ∃ g'', Le g' H' g'' H'' ∧ Sim g' H' g'' H'' ∧ RW K g'' H'' w x) ∧ (ws.length ≤ i → J.stop i H'))
    (k1 : Ok K Wx g H σ (ZT K σ g H) Q ((lcG tb dc de vs b (wS vs st1).r ws [] st1.s).bind fun xs st3 => .ok (.new (.lst xs)) st3)) :
    tLc (fun _ H R => R J H) (rdB K tb) (lB K WF dc) (lW K WF de) vs σ H1 Q := by
  intro D hD
  generalize hr0 : (wS vs st1).r = r0 at k1 z1
  have no : ∀ j ∈ vs, ∀ x, r0[j]? = some x → x = .no := fun j hj x e => by rw [← hr0] at e; exact wS_no hj e
  have start : Rel K g1 H1 ⟨r0, st1.s⟩ σ := by
    have := wS_forget r1 vs
    rw [show wS vs st1 = ⟨r0, st1.s⟩ by rw [← hr0, ← wS_s (st := st1) vs]] at this
    exact this
  refine ⟨fun i m H' => m = ws.length - i ∧ i ≤ ws.length ∧ ∃ g' hvs acc s', Le g1 H1 g' H' ∧ Rel K g' H' ⟨r0, s'⟩ σ ∧ g'.tg D = .tmp ∧ H' D = some (.lst hvs) ∧ RWs K g' H' acc hvs ∧
    Ok K Wx g H σ (ZT K σ g H) Q ((lcG tb dc de vs b r0 (ws.drop i) acc s').bind fun xs st3 => .ok (.new (.lst xs)) st3), ?_, ?_⟩
  · exact ⟨ws.length, by omega, Nat.zero_le _, g1.set D .tmp, [], [], st1.s, Le.new hD, start.sim (Sim.new hD), G.set_same, upd_same, .nil, k1⟩
  · rintro i m H' ⟨rfl, hi, g', hvs, acc, s', e2, r2, tD, hDs, ra, k2⟩
    by_cases hlt : i < ws.length
    · have hdr : ws.drop i = ws[i] :: ws.drop (i + 1) := List.drop_eq_getElem_cons hlt
      rw [hdr] at k2
      unfold lcG at k2
      split at k2
      · rename_i hst
        obtain ⟨hgo, _⟩ := z1 i g' H' s' e2 r2 hst
        obtain ⟨go, yl⟩ := hgo _ (List.getElem?_eq_getElem hlt)
        refine Or.inr ⟨go, fun H'' => i + 1 ≤ ws.length ∧ ∃ g' hvs acc s', Le g1 H1 g' H'' ∧ Rel K g' H'' ⟨r0, s'⟩ σ ∧ g'.tg D = .tmp ∧ H'' D = some (.lst hvs) ∧ RWs K g' H'' acc hvs ∧
          Ok K Wx g H σ (ZT K σ g H) Q ((lcG tb dc de vs b r0 (ws.drop (i + 1)) acc s').bind fun xs st3 => .ok (.new (.lst xs)) st3), fun H'' q => ⟨ws.length - (i + 1), by omega, rfl, q⟩, fun x H'' y => ?_⟩
        obtain ⟨g'', e3, sm, hw⟩ := yl x H'' y
        split at k2
        · exact k2.elim
        · rename_i sb hsb
          have rw0 : Rel K g'' H'' ⟨r0, s'⟩ (wipe σ vs) := by
            have := wS_rel (r2.sim sm) vs
            rw [wS_same no] at this
            exact this
          refine rdB_ok tb hw hsb rw0 hix fun σ2 rr ww => ?_
          have ww' : wipe σ2 vs = wipe σ vs := by
            rw [ww]
            exact wipe_wipe
          refine ⟨ww', g'', sb, rr, okX (K := K) (Wx := Wx) (g0 := g) (H0 := H) (by rw [R.bind_assoc] at k2; exact k2) fun c st2 g3 H3 v _ e4 r4 z4 k4 => ?_⟩
          cases z4
          -- back behind a turn
          have fin : ∀ {g5 : G} {H5 : Hp} {st5 : FS}, Rel K g5 H5 st5 σ2 → (wS vs st5).r = r0 → Rel K g5 H5 ⟨r0, st5.s⟩ σ := fun {g5 H5 st5} q1 q2 => by
            have := wS_rel q1 vs
            rw [ww', show wS vs st5 = ⟨r0, st5.s⟩ by rw [← q2, ← wS_s (st := st5) vs]] at this
            exact unwipe no this
          obtain ⟨t3, d3⟩ := e3.no D _ (Or.inr tD) hDs
          obtain ⟨t4, d4⟩ := e4.no D _ (Or.inr (t3.trans tD)) d3
          split at k4
          · rename_i hc
            subst hc
            rw [if_pos rfl]
            refine ⟨g3, st2, r4, okX (K := K) (Wx := Wx) (g0 := g) (H0 := H) (by rw [R.bind_assoc] at k4; exact k4) fun w5 st5 g5 H5 v5 _ e5 r5 z5 k5 => ?_⟩
            obtain ⟨t5, d5⟩ := e5.no D _ (Or.inr (t4.trans (t3.trans tD))) d4
            have tt : g5.tg D = .tmp := t5.trans (t4.trans (t3.trans tD))
            split at k5
            · rename_i hz
              have s5 := Sim.wr (H := H5) (o := .lst (hvs ++ [v5])) tt
              have fk := ((e3.trans e4).trans e5).fzk
              refine ⟨hvs, d5, by rw [← ra.length]; exact hz.2, by omega, g5, hvs ++ [v5], acc ++ [w5], st5.s, (((e2.trans e3).trans e4).trans e5).wr (Free.none hD), (fin r5 hz.1).sim s5, tt, upd_same, RWs.keep s5.fzk ((ra.keep fk).append (.cons z5 .nil)), k5⟩
            · exact k5.elim
          · rename_i hc
            have hcf : c = false := by simpa using hc
            subst hcf
            rw [if_neg Bool.false_ne_true]
            split at k4
            · rename_i hz
              exact ⟨by omega, g3, hvs, acc, st2.s, (e2.trans e3).trans e4, fin r4 hz, t4.trans (t3.trans tD), d4, ra.keep (e3.trans e4).fzk, k4⟩
            · exact k4.elim
      · exact k2.elim
    · have hie : i = ws.length := by omega
      subst hie
      rw [List.drop_length] at k2
      unfold lcG at k2
      split at k2
      · rename_i hst
        obtain ⟨_, hstop⟩ := z1 ws.length g' H' s' e2 r2 hst
        refine Or.inl ⟨hstop (Nat.le_refl _), ?_⟩
        exact k2 g' H' _ (e1.trans e2) r2 ⟨⟨D, _, rfl, tD, hDs, ra⟩, fun _ _ a z => by cases z; exact Free.none (e1.dom D hD)⟩
      · exact k2.elim
theorem lc_read {di : FS → R Wlk} {tb : TgB} {dc : FS → R Bool} {de : FS → R W} {vs : List Nat} (hix : ∀ i ∈ ixB tb, i ∈ vs) {Q : VK} (h : lE K Wx (eLc di tb dc de vs) σ H Q) :
    tLc (lI K Wx di) (rdB K tb) (lB K WF dc) (lW K WF de) vs σ H Q := by
  obtain ⟨g, st, hr, k⟩ := h
  refine ⟨g, st, hr, Ok.seq k fun t st1 g1 H1 J _ e1 r1 z1 k1 => ?_⟩
  exact lc_core1 hix e1 r1 (fun i g' H' s' e r p => z1 i g' H' _ _ e.lw r p) k1
end
end MV

namespace MV
open PySem PySem.Spec PyProof.Rows L2

section
variable {X : Cx} {Wx : MX} {e : Expr} {es : List Expr} {tb : TgB} {tbs : List TgB} {i k : Nat} {pos : Pos}
theorem pgB_nm (h : PG X e (gName i)) : PG X e (rdB X.K (.nm i)) := by rw [rdB]; exact h
end

section
variable {X : Cx} {Wx : MX} {elt tg iter : Expr} {ifs : List Expr} {scope : Scope} {pos : Pos} {di : FS → R Wlk} {tb : TgB} {dc : FS → R Bool} {de : FS → R W}
def VTs (X : Cx) (Wx : MX) (ifs : List Expr) (d : FS → R Bool) : Prop := PTs X ifs (lB X.K Wx d)
theorem vts_one {c : Expr} (h : VB X Wx c dc) : VTs X Wx [c] dc := pts_one h
theorem ve_lc (own : List (Str × Nat)) (hc : X.calm = true) (hN : X.N.Nodup) (hi : VI X Wx tg iter di) (ok : blkC X.N X.env.scope scope own = true)
    (hg : ∀ (s : Shared) (H : Hp) (C : Addr) (cl : List (Str × Addr)) (fp : List Addr), PG (X.blk s H scope (compEnvC scope cl C X.env) fp) tg (rdB X.K tb)) (ht : ∀ (s : Shared) (H : Hp) (C : Addr) (cl : List (Str × Addr)) (fp : List Addr), VTs (X.blk s H scope (compEnvC scope cl C X.env) fp) WF ifs dc)
    (he : ∀ (s : Shared) (H : Hp) (C : Addr) (cl : List (Str × Addr)) (fp : List Addr), VW (X.blk s H scope (compEnvC scope cl C X.env) fp) WF elt de) (hix : ∀ i ∈ ixB tb, i ∈ own.map (·.2)) (hs : ∀ x, foldedSetIterable iter X.env x = pure x := by intro _; rfl) :
    VE X Wx (.ListComp elt [⟨tg, iter, ifs, 0⟩] scope pos) (eLc di tb dc de (own.map (·.2))) :=
  PE_imp (pe_lc (tt := lB X.K WF dc) (te := lW X.K WF de) hc hN hi (blkOk_by ok) hg ht he hs) fun σ H Q h => lc_read hix h
end

end MV






namespace MV
open PySem PySem.Spec PyProof.Rows L2
def isSq : PyData → Bool
  | .list _ => true
  | .tuple _ => true
  | _ => false
def shwOk (d : PyData) : Bool := isSq d && d.showable && !d.hasDict && decide (d.depth ≤ 64) && decide (d.shown.length ≤ sizeLine)
def bReprD (ts : List T) (st : FS) : R T := match ts with
  | [t] => (match datOf st t with
    | some d => if shwOk d = true then .ok (.w (.str d.shown)) st else .stuck
    | none => .stuck)
  | _ => .stuck
def rReprA (K : PySem.W.Frag) : List V → Hp → VK → Prop := fun xs H Q => rReprM xs H Q ∨ rReprD K xs H Q
theorem call_reprA {X : Cx} (hgd : X.A.guards = some []) (hu : X.A.units + 65 < cLine) : CallR X (.builtin "repr") (rReprA X.K) := fun pins s σ H xs us Q I r h => by
  rcases h with h | h
  · exact call_reprM pins s σ H xs us Q I r h
  · exact call_reprD hgd hu pins s σ H xs us Q I r h
def bReprA (ts : List T) (st : FS) : R T := match ts with
  | [t] => (match bRepr [t] st with
    | .ok x st1 => .ok x st1
    | _ => bReprD [t] st)
  | _ => .stuck
theorem bs_reprA {K : PySem.W.Frag} : BsS K (rReprA K) bReprA := by
  intro g H st σ Wx Q vs ts hr hx k
  unfold bReprA at k
  split at k
  · rename_i t
    split at k
    · rename_i x st1 e
      rw [← e] at k
      exact Or.inl (bs_repr g H st σ Wx Q vs [t] hr hx k)
    · refine Or.inr ?_
      unfold bReprD at k
      simp only at k
      cases hx with
      | @cons _ v _ vs' h1 h2 =>
        cases h2
        split at k
        · rename_i d e
          split at k
          · rename_i ho
            unfold shwOk at ho
            simp only [Bool.and_eq_true, decide_eq_true_eq, Bool.not_eq_true'] at ho
            obtain ⟨⟨⟨⟨o0, o1⟩, o2⟩, o3⟩, o4⟩ := ho
            have hq : Q (.str d.shown) H := ok_w k hr (.str _)
            have hd := dp_t hr h1 e
            have hv : ∃ a, v = .ref a := by
              cases hd with
              | lst _ _ => exact ⟨_, rfl⟩
              | tup _ _ => exact ⟨_, rfl⟩
              | _ => cases o0
            obtain ⟨a, rfl⟩ := hv
            exact ⟨a, d, rfl, hd, o1, o2, o3, o4, hq⟩
          · exact k.elim
        · exact k.elim
  · exact k.elim
end MV








namespace MV
open PySem PySem.Spec PyProof.Rows L2
section
variable {ck : List (PySem.W.Frag → Bool)} {fa : List He.Fa} {fn : List He.DefD} {K : PySem.W.Frag}
theorem SaysM.chk (c : SaysM ck fa fn K) (i : Nat) {f : PySem.W.Frag → Bool} (h : ck[i]? = some f := by rfl) : f K = true :=
  List.all_eq_true.mp c.b.1 f (List.mem_of_getElem? h)
end
end MV





namespace MV
open PySem PySem.Spec PyProof.Rows L2 Builtin Builtin.ObjectAttr
structure XB (B nI iI : String) (tl : List Value) : Prop where
  n : ∃ Bn inN bmN, ExcBaseFacts Bn nI inN bmN ∧ tl.contains (.type Bn) = true
  hB : tl.contains (.type B) = true
  hA : tl.contains (.type "AttributeError") = false
  hN : tl.contains (.type "NameError") = false
  ip : ∃ o m, Slot o m iI
  ie : entryFor table iI = some Builtin.«BaseException.__init__»
  is : splitId iI = some (B, "__init__")
  ik : builtinKind iI = some .slot
  ir : Manifest.signature? iI = some ⟨.positional, "*", B, .self, [⟨"args", .varPos, false⟩]⟩
  st : (B != "*") = true
theorem XB.of {B nI iI : String} {tl : List Value} (F : ExcBaseFacts B nI iI tl) : XB B nI iI tl :=
  ⟨⟨B, iI, tl, F, F.hasB⟩, F.hasB, F.noAttr, F.noName, ⟨_, _, F.init⟩, F.initEntry, F.initSplit, F.initKind, F.initRow, F.noStar⟩
section
variable {prog : Program} {w : World} {A : Around} {E : Value → Shared → Prop} {R : Result → Shared → Prop} {h : Heap} {g : Array GenState} {d : Drawn} {t : Nat} {os : OsState}
variable {nm q : Str} {C N : Addr} {bs tl bmN : List Value} {hdct : Bool} {sn : List Str} {sub : List Value} {ab : Bool} {col : Option Bool} {dd : Option Addr} {k0 k1 k2 k3 k5 : Option Value} {B Bn nI iI inN : String}
theorem ctXB {C : Addr} {tl : List Value} {X : String} {b : Bool} (h : tl.contains (.type X) = b) : (Value.ref C :: tl).contains (.type X) = b := by
  rw [List.contains_cons, h]
  cases b <;> rfl
theorem new_B (F : ExcBaseFacts Bn nI inN bmN) (hBn : tl.contains (.type Bn) = true) (hA : tl.contains (.type "AttributeError") = false) (hN : tl.contains (.type "NameError") = false) {rest : List Value}
    (hC : h.get? C = some (excClassObj nm q C N bs tl hdct sn sub ab col dd k0 k1 k2 k3 k5 nI)) (hz : rest.length ≤ sizeLine)
    (hq : R (.ok (.ret (.ref (h.objs.size + 1)))) ⟨(h.push (PySem.W.kdv_tup rest)).push (PySem.HandSPX.excO C h.objs.size), g, d, t, os⟩) :
    codeAny (model prog w) A (.builtin nI ⟨.ref C :: rest, []⟩) R ⟨h, g, d, t, os⟩ := by
  have c1 := ctXB (C := C) hBn
  have c2 := ctXB (C := C) hA
  have c3 := ctXB (C := C) hN
  have ends := F.ends
  have hrest := hz
  refine codeAny_builtinAt F.entry ?_
  unfold Builtin.«BaseException.__new__»
  refine PySem.wpAt_bind ?_
  show PySem.wpAt _ _ _ (stack >>= _) _ _ _
  refine PySem.wpAt_bind (PySem.wpAt_stack fun p below => PySem.wpAt_of_wpAny ?_)
  wp_walk
  refine PySem.wpAt_of_wpAny ?_
  rw [F.owner]
  repeat (first | with_reducible refine wpAny_madeHere_exc F.canon hC ?_ | with_reducible refine wpAny_loadPart_at hC ?_ | (with_reducible refine wpAny_isSubtype_exc hC ?_; first | rw [c1] | rw [c2] | rw [c3]) | wp_step)
  show R _ _
  rw [Heap.size_push]
  exact hq
theorem new_B_check {M : Model} {Q : Unit → Shared → Prop} (F : ExcBaseFacts Bn nI inN bmN) (hBn : tl.contains (.type Bn) = true) {rest : List Value}
    (hC : h.get? C = some (excClassObj nm q C N bs tl hdct sn sub ab col dd k0 k1 k2 k3 k5 nI)) (hq : Q () ⟨h, g, d, t, os⟩) : wpAny M A (checkBuiltinCall nI ⟨.ref C :: rest, []⟩) Q E ⟨h, g, d, t, os⟩ := by
  have c1 := ctXB (C := C) hBn
  have st := F.noStar
  simp only [checkBuiltinCall, F.newKind, F.newSplit, F.newRow]
  repeat (first | refine wpAny_loadPart_at hC ?_ | (refine wpAny_isSubtype_exc hC ?_; rw [c1]) | refine wpAny_staticBase_exc hC ?_ | refine wpAny_madeBy_exc hC ?_ | simp only [bne_self_eq_false, Bool.false_eq_true, if_false] | wp_step)
  exact hq
theorem XB.type_call (T : XB B nI iI tl) {rest : List Value} {fI : Addr} {Q : Fin → Shared → Prop}
    (hC : h.get? C = some (excClassObj nm q C N bs tl hdct sn sub ab col dd k0 k1 k2 k3 k5 nI))
    (hi : PySem.W.Looks (model prog w) h (typeLookup (.ref C) "__init__") (some (.ref fI))) (hb : ∀ self, PySem.W.Looks (model prog w) h (bindSpecial (.ref fI) self) (.ref fI, [self])) (hz : rest.length ≤ sizeLine)
    (hq : codeAny (model prog w) A (.call (.ref fI) ⟨.ref (h.objs.size + 1) :: rest, []⟩)
      (fun r s' => match r with | .ok (.ret v) => v = .none ∧ Q (.done (.ret (.ref (h.objs.size + 1)))) s' | .ok _ => False | .error e => E e s')
      ⟨(h.push (PySem.W.kdv_tup rest)).push (PySem.HandSPX.excO C h.objs.size), g, d, t, os⟩) :
    wpAny (model prog w) A (Builtin.«type.__call__» ⟨.ref C :: rest, []⟩) Q E ⟨h, g, d, t, os⟩ := by
  obtain ⟨Bn, inN, bmN, F, hBn⟩ := T.n
  repeat (first | with_reducible refine wpAny_loadPart_at hC ?_ | with_reducible refine wpAny_madeBy_exc hC ?_ | wp_step)
  refine codeAny_call_builtin_code (Code.quiet_builtin _ F.quiet) (new_B_check F hBn hC ?_)
  refine new_B F hBn T.hA T.hN hC hz ?_
  show wpAny _ _ _ _ _ _
  have k : ∀ b o, h.get? b = some o → ((h.push (PySem.W.kdv_tup rest)).push (PySem.HandSPX.excO C h.objs.size)).get? b = some o := fun b o e => Heap.get?_push_of_some _ (Heap.get?_push_of_some _ e)
  have hC1 := k _ _ hC
  have hg : ((h.push (PySem.W.kdv_tup rest)).push (PySem.HandSPX.excO C h.objs.size)).get? (h.objs.size + 1) = some (PySem.HandSPX.excO C h.objs.size) := by heap_get
  have hcC : (Value.ref C :: tl).contains (.ref C) = true := by simp
  have i1 := hi.keeps k
  have b1 := (hb (.ref (h.objs.size + 1))).keeps k
  unfold isInstance
  repeat (first | with_reducible refine wpAny_loadPart_at hg ?_ | (with_reducible refine wpAny_isSubtype_exc hC1 ?_; rw [hcC]) | wp_step)
  show wpAny _ _ (typeLookup (.ref C) _) _ _ _
  refine i1.at ?_
  refine wpAny_holding (wpAny_bind (b1.at ?_))
  refine wpAny_bind (wpAny_call (codeAny_mono hq fun r s' z => ?_))
  rcases r with e | (v | _ | _ | _) <;> first | exact z | exact z.elim | skip
  obtain ⟨rfl, z⟩ := z
  first
    | exact wpAny_pure (wpAny_pure z)
    | (wp_walk; exact z)
theorem XB.call_own (T : XB B nI iI tl) {rest : List Value} {fI : Addr}
    (hC : h.get? C = some (excClassObj nm q C N bs tl hdct sn sub ab col dd k0 k1 k2 k3 k5 nI))
    (hi : PySem.W.Looks (model prog w) h (typeLookup (.ref C) "__init__") (some (.ref fI))) (hb : ∀ self, PySem.W.Looks (model prog w) h (bindSpecial (.ref fI) self) (.ref fI, [self])) (hz : rest.length ≤ sizeLine)
    (hq : codeAny (model prog w) (A.under (.builtin "type.__call__" ⟨.ref C :: rest, []⟩)) (.call (.ref fI) ⟨.ref (h.objs.size + 1) :: rest, []⟩) (PySem.W.InitBack (h.objs.size + 1) R)
      ⟨(h.push (PySem.W.kdv_tup rest)).push (PySem.HandSPX.excO C h.objs.size), g, d, t, os⟩) :
    codeAny (model prog w) A (.call (.ref C) ⟨rest, []⟩) R ⟨h, g, d, t, os⟩ := by
  have f1 := tc_lookup
  have f2 := tc_bind (.ref C)
  have hTy : (⟨h, g, d, t, os⟩ : Shared).TypeIs (.ref C) "type" := ⟨_, hC, rfl⟩
  refine codeAny_of_tree ?_
  show wpAny _ _ (callAny (.ref C) _) _ _ _
  repeat (any_goals (first | assumption | with_reducible refine wpAny_loadPart_at hC ?_ | wp_step))
  refine ⟨rfl, ?_⟩
  refine codeAny_call_builtin_at (Code.quiet_builtin _ (by decide +kernel)) entry_typeCall (wpAny_check_type_call_sub hC (T.type_call hC hi hb hz ?_))
  refine codeAny_mono hq fun r s' z => ?_
  rcases r with e | (v | _ | _ | _) <;> exact z
theorem XB.init_check {M : Model} (T : XB B nI iI tl) {e : Addr} {oe : Obj} {rest : List Value} {Q : Unit → Shared → Prop}
    (hC : h.get? C = some (excClassObj nm q C N bs tl hdct sn sub ab col dd k0 k1 k2 k3 k5 nI)) (he : h.get? e = some oe) (hcls : oe.cls = .ref C) (hq : Q () ⟨h, g, d, t, os⟩) :
    wpAny M A (checkBuiltinCall iI ⟨.ref e :: rest, []⟩) Q E ⟨h, g, d, t, os⟩ := by
  have c1 := ctXB (C := C) T.hB
  have st := T.st
  simp only [checkBuiltinCall, T.ik, T.is, T.ir]
  repeat (first | (with_reducible refine wpAny_loadPart_at he ?_; rw [hcls]) | with_reducible refine wpAny_loadPart_at hC ?_ | (with_reducible refine wpAny_isSubtype_exc hC ?_; rw [c1]) | wp_step)
  refine wpAny_onRaise ?_
  rw [show ∀ (a b : String) (n : Nat), Bind.check ⟨.positional, "*", B, .self, [⟨"args", .varPos, false⟩]⟩ a b n (List.map (fun x => x.fst) ({ pos := Value.ref e :: rest } : Args).kw) = pure () from
    fun a b n => check_star_args _ _ _ _ _ _]
  exact wpAny_pure hq
theorem XB.init_base (T : XB B nI iI tl) {e t0 : Addr} {rest : List Value}
    (hC : h.get? C = some (excClassObj nm q C N bs tl hdct sn sub ab col dd k0 k1 k2 k3 k5 nI)) (he : h.get? e = some (PySem.HandSPX.excO C t0)) (hz : rest.length ≤ sizeLine)
    (hq : ∀ h' t1, (∀ b o, b ≠ e → h.get? b = some o → h'.get? b = some o) → h'.get? e = some (PySem.HandSPX.excO C t1) → R (.ok (.ret .none)) ⟨h', g, d, t, os⟩) :
    codeAny (model prog w) A (.call (.builtin iI) ⟨.ref e :: rest, []⟩) R ⟨h, g, d, t, os⟩ := by
  obtain ⟨o, m, sl⟩ := T.ip
  refine codeAny_call_builtin sl.plain T.ie (T.init_check hC he rfl ?_)
  have hrest := hz
  wp_walk
  refine hq _ h.objs.size (fun b o hb ho => ?_) ?_
  · rw [Heap.get?_update_other _ _ (Ne.symm hb)]
    exact Heap.get?_push_of_some _ ho
  · rw [Heap.get?_update_self _ (Heap.get?_push_of_some _ he) rfl]
    rfl
end
theorem xb_KeyError : XB "KeyError" "LookupError.__new__" "KeyError.__init__" tlK where
  n := ⟨_, _, _, PySem.F.excBase_LookupError, by decide +kernel⟩
  hB := by decide +kernel
  hA := by decide +kernel
  hN := by decide +kernel
  ip := ⟨_, _, excClass_KeyError.init⟩
  ie := excClass_KeyError.initEntry
  is := excClass_KeyError.initSplit
  ik := excClass_KeyError.initKind
  ir := excClass_KeyError.initSig
  st := by decide +kernel
theorem store_KeyError : StoreFacts "KeyError" tlK "object.__setattr__" "object" where
  mro := by rw [mroOf_type]; kernel_rfl
  slot := .of (owner := "object") (n := "__setattr__") (by rw [typeLookup_type, builtinLookup_eq_fast]; kernel_rfl) (by decide +kernel) (by decide +kernel) (by decide +kernel)
    (by first | exact .inl (by decide +kernel) | exact .inr (by decide +kernel)) (by rw [isSubtype_type]; kernel_rfl)
  entry := PySem.F.store_ValueError.entry
  kind := PySem.F.store_ValueError.kind
  split := PySem.F.store_ValueError.split
  hasOwner := by decide +kernel
  args := PySem.F.store_ValueError.args
  passes := fun self => by kernel_rfl
end MV

namespace MV
open PySem PySem.Spec PyProof.Rows L2 Builtin Builtin.ObjectAttr
structure XCls (K : PySem.W.Frag) (C : Addr) (B nI iI : String) (tl : List Value) : Prop where
  fb : XB B nI iI tl
  sf : StoreFacts B tl "object.__setattr__" "object"
  tt : PySem.W.excTail tl tl = true
  obj : ∃ nm q N bs sn sub ab col dd k0 k1 k2 k3 k5, K.lookup C = some (excClassObj nm q C N bs tl true sn sub ab col dd k0 k1 k2 k3 k5 nI)
  sa : PySem.W.findIn K (.ref C) "__setattr__" = some (some (.builtin "object.__setattr__"))
  su : PySem.W.subIn K (.ref C) (.type "BaseException") = some true
  ty : PySem.W.typeIn K (.ref C) = some (.type "type")
  kp : PySem.W.keepIn K (.ref C) = true
section
variable {prog : Program} {w : World} {A : Around} {E : Value → Shared → Prop} {R : Result → Shared → Prop} {hp : Heap} {g : Array GenState} {d : Drawn} {t : Nat} {os : OsState}
variable {K : PySem.W.Frag} {x C dx : Addr} {B nI iI : String} {tl : List Value} {fv : Array Value} {nm : Str} {tk : Tok} {v : Value} {m0 : Str → Option Value} {nl : List Str}
theorem xcls_cls (T : XCls K C B nI iI tl) : ∃ cd, PySem.W.clsIn K C = some cd ∧ cd.mro = .ref C :: tl ∧ cd.hasDict = true := by
  obtain ⟨_, _, _, _, _, _, _, _, _, _, _, _, _, _, e⟩ := T.obj
  exact ⟨_, by unfold PySem.W.clsIn; rw [e] <;> rfl, rfl, rfl⟩
theorem xcls_over (T : XCls K C B nI iI tl) : PySem.W.excOver K C tl = true := by
  obtain ⟨cd, h1, h2, _⟩ := xcls_cls T
  unfold PySem.W.excOver
  rw [h1, Option.any_some]
  obtain ⟨_, _, mro, _, _, _, _, _, _, _, _⟩ := cd
  dsimp only at h2
  subst h2
  dsimp only
  rw [beq_self_eq_true, Bool.true_and]
  exact T.tt
theorem xcls_noTaker (hno : PySem.W.findIn K (.ref C) nm = some none) : PySem.W.takerIn K C nm = some none := by
  unfold PySem.W.takerIn
  rw [hno] <;> rfl
theorem xst_new (T : XCls K C B nI iI tl) (X : K.In hp) (hx : hp.get? x = some { cls := .ref C, data := .fields fv }) (hno : PySem.W.findIn K (.ref C) nm = some none)
    (hq : ∀ h2 t2 dx, (∀ b o, b ≠ x → hp.get? b = some o → h2.get? b = some o) → hp.objs.size ≤ dx → dx ≠ x → h2.get? x = some { cls := .ref C, dict := some dx, data := .fields fv } →
      h2.Ns1 dx (fun y => if y = nm then some v else none) → R (.ok (.ret .none)) ⟨h2, g, d, t2, os⟩) : codeAny (model prog w) A (.call (.builtin "object.__setattr__") ⟨[.ref x, .str nm tk, v], []⟩) R ⟨hp, g, d, t, os⟩ := by
  obtain ⟨cd, c1, c2, c3⟩ := xcls_cls T
  have ne : x ≠ hp.objs.size := Nat.ne_of_lt (Heap.lt_size hx)
  have lk : PySem.W.Looks (model prog w) hp (classData C) cd := PySem.W.looks_clsIn X c1
  refine PySem.W.osa_openX (r := none) T.sf X (ox := { cls := .ref C, data := .fields fv }) (od := none) ⟨hx, rfl, rfl, trivial⟩ (xcls_over T) (xcls_noTaker hno) fun b => ?_
  obtain ⟨n1, b1, m1, s1, q1, hd, n2, u1, a1, l1, e1⟩ := cd
  dsimp only at c3
  subst c3
  unfold storeInOwnDict ownDictForStores
  repeat (first | with_reducible refine PySem.HandSPX.store_in_new ?_ ?_ | with_reducible refine wpAny_loadPart_at hx ?_ | with_reducible refine lk.at ?_ | wp_step)
  · exact ⟨_, #[], _, (Heap.get?_update_ne _ _ _ _ ne.symm).trans (Heap.get?_push_at rfl rfl), rfl, fun e he => absurd he (by simp), fun _ => rfl⟩
  · intro h2 t2 hn hs
    have hx2 : (hp.push { cls := .type "dict", data := .dict #[] }).get? x = some { cls := .ref C, data := .fields fv } := Heap.get?_push_of_some _ hx
    refine hq h2 t2 hp.objs.size (fun b o hb ho => ?_) (Nat.le_refl _) ne.symm ((hs.2 x ne).trans (Heap.get?_update_self _ hx2 rfl)) hn
    exact (hs.2 b (Nat.ne_of_lt (Heap.lt_size ho))).trans ((Heap.get?_update_ne _ _ _ _ hb).trans (Heap.get?_push_of_some _ ho))
theorem xst_old (T : XCls K C B nI iI tl) (X : K.In hp) (hx : hp.get? x = some { cls := .ref C, dict := some dx, data := .fields fv }) (hns : hp.Ns1 dx m0) (hw : Within m0 nl) (hz : nl.length ≤ 1000) (hno : PySem.W.findIn K (.ref C) nm = some none)
    (hq : ∀ h2 t2, (∀ b o, b ≠ dx → hp.get? b = some o → h2.get? b = some o) → h2.Ns1 dx (fun y => if y = nm then some v else m0 y) → R (.ok (.ret .none)) ⟨h2, g, d, t2, os⟩) :
    codeAny (model prog w) A (.call (.builtin "object.__setattr__") ⟨[.ref x, .str nm tk, v], []⟩) R ⟨hp, g, d, t, os⟩ := by
  obtain ⟨cd, c1, c2, c3⟩ := xcls_cls T
  obtain ⟨oD, _, _, hoD, _, _⟩ := hns.count hw
  have lk : PySem.W.Looks (model prog w) hp (classData C) cd := PySem.W.looks_clsIn X c1
  refine PySem.W.osa_openX (r := none) T.sf X (ox := { cls := .ref C, dict := some dx, data := .fields fv }) (od := some oD) ⟨hx, rfl, rfl, hoD⟩ (xcls_over T) (xcls_noTaker hno) fun b => ?_
  obtain ⟨n1, b1, m1, s1, q1, hd, n2, u1, a1, l1, e1⟩ := cd
  dsimp only at c3
  subst c3
  unfold storeInOwnDict ownDictForStores
  repeat (first | with_reducible refine PySem.OEX.store_in_old hns hw hz ?_ | with_reducible refine wpAny_loadPart_at hx ?_ | with_reducible refine lk.at ?_ | wp_step)
  intro h2 t2 hn hs
  exact hq h2 t2 (fun b o hb ho => (hs.2 b hb).trans ho) hn
end
section
variable {X : Cx} {pins : List (Addr × Obj)} {σ : L2.St} {H : Hp} {s : Shared} {a C dx : Addr} {f : Str} {y : V} {u : Value} {fs : List (Str × V)} {Q : Unit → Shared → Prop} {E : Value → Shared → Prop} {A : Around} {B nI iI : String} {tl : List Value}
theorem xa_new (T : XCls X.K C B nI iI tl) (I : Inv X pins σ H s) (e : H a = some (exo a C none)) (hno : PySem.W.findIn X.K (.ref C) f = some none) (ry : RelV y u)
    (h : ∀ dx s', H dx = none → dx ≠ a → Inv X pins σ (upd (upd H dx (exd dx [(f, y)])) a (exo a C (some dx))) s' → Q () s') : wpAny (model X.prog X.w) A (setAttr (.ref a) f u) Q E s := by
  obtain ⟨t1, ho⟩ := exo_at I.hok e
  obtain ⟨hp, g, d, t, os⟩ := s
  refine PySem.W.set_plain I.kIn (od := none) ⟨ho, rfl, rfl, trivial⟩ T.sa (xst_new T I.kIn ho hno fun h2 t2 dx k dn ne hx hn => ?_)
  have hnd : H dx = none := I.hok.fresh dn
  have nd : ∀ {b : Addr} {o : Obj}, hp.get? b = some o → b ≠ dx := fun {b o} q => Nat.ne_of_lt (Nat.lt_of_lt_of_le (Heap.lt_size q) dn)
  have na : ∀ {b : Addr}, H b = none → b ≠ a := fun {b} n z => by rw [z, e] at n; cases n
  refine h dx _ hnd ne (I.un (t' := t2) ⟨fun b o q n _ _ => k b o (na n) q, fun b o q n _ _ => ⟨o.slots, k b o (na n) q⟩, fun b o q n _ => by rw [upd_ne (na n), upd_ne (nd q)]; exact n, fun b o q _ => ?_,
    fun b xs q => by rw [upd_ne (at_ne e q exo_tup), upd_ne (ne_of_none q hnd)]; exact q, fun b o v q => by rw [upd_ne (at_ne e q exo_frz), upd_ne (ne_of_none q hnd)]; exact q, fun b ps q => ⟨#[], by rw [upd_ne (at_ne e q exo_tbl), upd_ne (ne_of_none q hnd), q]; simp⟩⟩ fun b o q => ?_)
  · by_cases hb : b = a
    · exact ⟨_, by rw [hb]; exact hx⟩
    · exact ⟨o, k b o hb q⟩
  · by_cases hb : b = a
    · subst hb; rw [upd_same] at q; cases q; exact exo_ok hx
    · rw [upd_ne hb] at q
      by_cases hd : b = dx
      · subst hd; rw [upd_same] at q; cases q; exact exd_ok hn (relO_put (fs := []) ry fun g => True.intro)
      · rw [upd_ne hd] at q
        refine (I.hok b o q).stay (fun c v hc z => k c v ?_ z) (fun c hc => by rw [upd_ne (at_ne e hc exo_own), upd_ne (ne_of_none hc hnd)]; exact hc) fun c xs hc => by rw [upd_ne (at_ne e hc exo_tup), upd_ne (ne_of_none hc hnd)]; exact hc
        rcases hc with hc | hc
        · rw [hc]; exact hb
        · exact at_ne e hc exo_own
theorem xa_old (T : XCls X.K C B nI iI tl) (I : Inv X pins σ H s) (e : H a = some (exo a C (some dx))) (ed : H dx = some (exd dx fs)) (hl : fs.length ≤ 900) (hno : PySem.W.findIn X.K (.ref C) f = some none) (ry : RelV y u)
    (h : ∀ s', Inv X pins σ (upd H dx (exd dx ((f, y) :: fs))) s' → Q () s') : wpAny (model X.prog X.w) A (setAttr (.ref a) f u) Q E s := by
  obtain ⟨t1, ho⟩ := exo_at I.hok e
  obtain ⟨mA, hns, rel⟩ := exd_at I.hok ed
  have hw := within_of rel
  obtain ⟨hp, g, d, t, os⟩ := s
  obtain ⟨oD, _, _, hoD, _, _⟩ := hns.count hw
  refine PySem.W.set_plain I.kIn (od := some oD) ⟨ho, rfl, rfl, hoD⟩ T.sa (xst_old T I.kIn ho hns hw (by rw [List.length_map]; omega) hno fun h2 t2 k hn => ?_)
  have hd : ∃ o, h2.get? dx = some o := by obtain ⟨o, _, _, e', _⟩ := hn; exact ⟨o, e'⟩
  exact h _ (I.write (t' := t2) (x := dx) (e := dx) (o := exd dx ((f, y) :: fs)) (by rw [ed]; exact True.intro) (.inl rfl) k hd (exd_ok hn (relO_put ry rel)))
theorem xi_ok {us : List Value} {Q : Value → Shared → Prop} (T : XCls X.K C B nI iI tl) (I : Inv X pins σ H s) (e : H a = some (exo a C none)) (hl : us.length ≤ sizeLine) (h : ∀ s', Inv X pins σ H s' → Q .none s') :
    wpAny (model X.prog X.w) A (call (.builtin iI) (.ref a :: us)) Q E s := by
  obtain ⟨nm, q, N, bs, sn, sub, ab, col, dd, k0, k1, k2, k3, k5, hC⟩ := T.obj
  obtain ⟨t1, ho⟩ := exo_at I.hok e
  obtain ⟨hp, g, d, t, os⟩ := s
  refine wpAny_call (T.fb.init_base (I.kIn _ _ hC) ho hl fun h2 t2 k hx => ?_)
  have J := I.write (t' := t) (x := a) (e := a) (o := exo a C none) (by rw [e]; exact True.intro) (.inl rfl) k ⟨_, hx⟩ (exo_ok hx)
  have eu : upd H a (exo a C none) = H := by
    funext b
    by_cases hb : b = a
    · rw [hb, upd_same, e]
    · rw [upd_ne hb]
  rw [eu] at J
  exact h _ J
end
def tXI (K : PySem.W.Frag) (B nI iI : String) (tl : List Value) (ta : TA) : TE := fun σ H Q => ta σ H fun vs H1 => ∃ (a C : Addr) (ws : List V), vs = .ref a :: ws ∧ ws.length ≤ 1000 ∧ XCls K C B nI iI tl ∧ H1 a = some (exo a C none) ∧ Q .non H1
def tXst (K : PySem.W.Frag) (B nI iI : String) (tl : List Value) (f : Str) (to te : TE) : TS := fun D σ H => te σ H fun y H1 => to σ H1 fun x H2 => ∃ a C : Addr, x = .ref a ∧ XCls K C B nI iI tl ∧ PySem.W.findIn K (.ref C) f = some none ∧
  ((H2 a = some (exo a C none) ∧ ∀ dx, H2 dx = none → dx ≠ a → D.nx σ (upd (upd H2 dx (exd dx [(f, y)])) a (exo a C (some dx)))) ∨
    ∃ (dx : Addr) (fs : List (Str × V)), H2 a = some (exo a C (some dx)) ∧ H2 dx = some (exd dx fs) ∧ fs.length ≤ 900 ∧ D.nx σ (upd H2 dx (exd dx ((f, y) :: fs))))
section
variable {X : Cx} {o e : Expr} {es : List Expr} {to te : TE} {ta : TA} {f : Str} {p p' p1 p2 pos : Pos} {B nI iI : String} {tl : List Value} {bx : Str}
theorem pe_xi {pl : Sem Bool} (hg : Gl X bx) (hm : X.mg bx = none) (hb : bootBuiltins bx = some (.type B)) (tB : typeOf (.type B) = pure (.type "type")) (sB : Manifest.isStub B = false) (hI : PySem.W.handedIn (.builtin iI) = true) (gI : onTheHeap (.builtin iI) = false)
    (vV : PySem.W.findCls X.K (.type B) (.type "type") "__init__" = some (.val (.builtin iI))) (ha : PA X (e :: es) ta) (n1 : bx ≠ "__name__" := by decide) (n2 : (bx == ("__debug__" : Str)) = false := by decide)
    (hc : eval (.Call (.Attribute (.Name bx p1) "__init__" p2) (e :: es) [] pos) X.env = (do let ov ← eval (.Name bx p1) X.env; standAt p2.atName; let (f, first) ← holding [ov] (getMethod ov "__init__" pl); callWith pos f first (backTo pos (starEach (e :: es) X.env)) (backToKw pos (keywordEach [] X.env))) := by rfl)
    (he : starEach (e :: es) X.env = (false, eval e X.env) :: starEach es X.env := by rfl) (hpl : (backTo pos (starEach es X.env)).any (·.1) = false := by rfl) :
    PE X (.Call (.Attribute (.Name bx p1) "__init__" p2) (e :: es) [] pos) (tXI X.K B nI iI tl ta) := by
  refine ⟨fun pins s σ H Q I h => PySem.W.methodCall_KW (ld_blt I hg hm hb ?_ n1 n2) hc⟩
  obtain ⟨m, fr⟩ := I.fr
  refine PySem.W.method_type fr I.ok.mod.kin tB sB vV hI ?_
  show wpAny _ _ (callWith pos (Value.builtin iI) [] (backTo pos (starEach (e :: es) X.env)) []) _ _ _
  refine PyProof.Rows.callWith_method1 (thn (ha.run pos pins _ σ H _ (I.tok _) h) fun us s1 ⟨vs, H1, I1, r1, a, C, ws, ev, hl, T, ea, q⟩ => ?_) he hpl
  subst ev
  cases r1 with
  | @cons _ u0 _ ur ra rw2 =>
    obtain rfl : u0 = Value.ref a := ra
    exact xi_ok T I1 ea (by rw [← Paired.length rw2, sizeLine_eq]; omega) fun s2 J => ⟨.non, H1, J, rfl, q⟩
theorem ps_xst (ho : PE X o to) (he : PE X e te) (hs : swapsWith e (some (.Attribute o f p')) pos.line X.env = pure false := by rfl) : PS X (.Assign [.Attribute o f p'] e pos) (tXst X.K B nI iI tl f to te) := by
  refine ⟨fun pins s σ H D I h => plainObj_wpAny_Assign_Attribute (thn (he.run pins s σ H _ I h) fun v s1 ⟨y, H1, I1, r1, q1⟩ => thn (ho.run pins s1 σ H1 _ I1 q1) fun u s2 ⟨x, H2, I2, r2, a, C, ex, T, hno, q⟩ => ?_) hs⟩
  subst ex
  obtain rfl : u = Value.ref a := r2
  rcases q with ⟨ea, q⟩ | ⟨dx, fs, ea, ed, hl, q⟩
  · exact xa_new T I2 ea hno r1 fun dx s2 n ne J => ⟨σ, _, J, q dx n ne⟩
  · exact xa_old T I2 ea ed hl hno r1 fun s2 J => ⟨σ, _, J, q⟩
theorem pmk_x {CX : CXT} {x : Str} {C fI : Addr} {k : Nat} {fd : FuncData} {ps : List Str} {sp : Sp} (T : XCls X.K C B nI iI tl) (iC : PySem.W.findIn X.K (.ref C) "__init__" = some (some (.ref fI))) (tI : PySem.W.typeIn X.K (.ref fI) = some (.type "function"))
    (F1 : FnOk X.prog X.w X.K X.mg X.base CX k fI fd ps sp) (hr : Room (k + 1) X.A) (hb : Binds X.K fd ps []) (hx : Passes CX X (fun _ _ _ => False)) (hg : Gl X x) (hm : X.mg x = some (.ref C)) (ha : PA X (e :: es) ta)
    (hdb : (x == ("__debug__" : Str)) = false := by decide) (he : starEach (e :: es) X.env = (false, eval e X.env) :: starEach es X.env := by rfl) (hpl : (backTo pos (starEach es X.env)).any (·.1) = false := by rfl) :
    L2N.PMk X (.Call (.Name x p) (e :: es) [] pos) (tMkO C sp [] ta) := by
  intro pins s σ H Q I h
  obtain ⟨nm, q, N, bs, sn, sub, ab, col, dd, k0, k1, k2, k3, k5, hC⟩ := T.obj
  refine wpAny_Call_Name_kw (ld_glob I hg hm (PySem.W.callWith_K (h₀ := X.base) I.ok.mod.kin T.kp (thn (ha.run pos pins s σ H _ I h) fun us s1 ⟨vs, H1, I1, r1, hz, q1⟩ => ⟨I1.kIn, ?_⟩) he hpl) hdb)
  show wpAny _ _ (call (.ref C) us) _ _ _
  obtain ⟨hp, g, dr, tk, os⟩ := s1
  have hsz : hp.objs.size ≤ hp.objs.size + 1 := Nat.le_succ _
  have hq := q1 (hp.objs.size + 1) (I1.hok.fresh hsz)
  have kk : ∀ b o, hp.get? b = some o → ((hp.push (PySem.W.kdv_tup us)).push (PySem.HandSPX.excO C hp.objs.size)).get? b = some o := fun b o e => Heap.get?_push_of_some _ (Heap.get?_push_of_some _ e)
  have hget : ((hp.push (PySem.W.kdv_tup us)).push (PySem.HandSPX.excO C hp.objs.size)).get? (hp.objs.size + 1) = some (PySem.HandSPX.excO C hp.objs.size) := by heap_get
  have I2 : Inv X pins σ (upd H1 (hp.objs.size + 1) (exo (hp.objs.size + 1) C none)) ⟨(hp.push (PySem.W.kdv_tup us)).push (PySem.HandSPX.excO C hp.objs.size), g, dr, tk, os⟩ :=
    I1.laid (t' := tk) (a := hp.objs.size + 1) (o := exo (hp.objs.size + 1) C none) (h' := (hp.push (PySem.W.kdv_tup us)).push (PySem.HandSPX.excO C hp.objs.size)) kk hsz (exo_ok hget)
  have r2 : Vals (V.ref (hp.objs.size + 1) :: (vs ++ [])) (Value.ref (hp.objs.size + 1) :: (us ++ [])) := .cons rfl (r1.append .nil)
  have hl : (Value.ref (hp.objs.size + 1) :: us ++ []).length = ps.length := by
    have e := r2.length
    rw [F1.len _ _ _ _ hq] at e
    exact e.symm
  have hus : us.length ≤ sizeLine := by rw [← Paired.length r1, sizeLine_eq]; omega
  refine wpAny_call (T.fb.call_own (I1.kIn _ _ hC) (PySem.W.looks_findIn I1.kIn iC) (fun self => PySem.W.bind_fn I1.kIn self tI) hus
    (codeAny_mono (F1.run _ X.stack _ _ ⟨Value.ref (hp.objs.size + 1) :: us, []⟩ (Value.ref (hp.objs.size + 1) :: (us ++ [])) _ _ (fun _ _ _ => False) (hr.make C us []) (I2.env0.make C us []) (show BindsTo _ fd _ (ps.zip (Value.ref (hp.objs.size + 1) :: (us ++ []))) from hb _ (Value.ref (hp.objs.size + 1) :: us) I2.kIn hl) r2 hq) fun r s2 hq2 => ?_))
  cases r with
  | error er => exact hx pins σ _ _ er s2 I2 hq2
  | ok fl =>
    cases fl with
    | next => exact False.elim hq2
    | brk => exact False.elim hq2
    | cont => exact False.elim hq2
    | ret u =>
      obtain ⟨v, H2, os2, bare2, un2, hok2, rv, ev, d, fs, ea, ed, hd1, q2⟩ := hq2
      subst ev
      obtain ⟨h2, g2, d2, t2, os3⟩ := s2
      obtain ⟨t0, G, J, kG, ge, hoe, na⟩ := mk_end0 (d2 := d2) (t2 := t2) I1 hsz kk un2 hok2 os2 bare2 ea ed hd1
      exact ⟨rv, hp.objs.size + 1, _, _, ⟨G, g2, d2, t2, os3⟩, _, .ref C, some d, rfl, J, kG, ge, hoe, ⟨rfl, rfl, fun vs e => by cases e; rfl⟩, rfl, rfl, na, rfl, bare2, raises_own T.su T.ty, q2⟩
theorem pmk_x0 {x : Str} {C : Addr} (F : ExcBaseFacts B nI iI tl) (q : PySem.W.excIn X.K C tl nI = true) (gC : X.mg x = some (.ref C)) (kC : PySem.W.keepIn X.K (.ref C) = true) (r : Raises X (.ref C)) (hg : Gl X x) (hdb : (x == ("__debug__" : Str)) = false := by decide) :
    L2N.PMk X (.Call (.Name x p) [] [] pos) (fun _ H Q => Q (.ref C) none H) := by
  intro pins s σ H Q I h
  refine wpAny_Call_Name_kw (ld_glob I hg gC ?_ hdb)
  refine PySem.W.callWith_K0 I.kIn kC ?_
  obtain ⟨bm, N, nm, qn, bs, hdct, sn, sub, ab, col, dd, k0, k1, k2, k3, k5, mN, hC, hN, hni, T⟩ := exc_obj I.kIn q
  exact wpAny_call_exc_subT F T hC hN hni (fun h2 e hm => L2N.mk_of I hm r h (I.hok.gone hm.new)) (Nat.zero_le _)
end
end MV


namespace MV
open PySem PySem.Spec PyProof.Rows L2
theorem tn_det {K : PySem.W.Frag} {t : Tn} {u : Value} (h : RelV (t.v K) u) : u = t.u K := by
  cases t with
  | own e => exact h
  | bi b => exact h
structure XT (K : PySem.W.Frag) (cs : List Ec) (ts : List Tn) : Prop where
  nm : ∀ c ∈ cs, PySem.W.nsIn K mainGlobals c.s = some (some (.ref (He.ga K c.s)))
  fld : ∀ c ∈ cs, XfC K (He.ga K c.s)
  noa : ∀ c ∈ cs, ∀ f ∈ c.fl, PySem.W.findIn K (.ref (He.ga K c.s)) f = some none
  cl : ∀ c ∈ cs, PySem.W.findIn K (.ref (He.ga K c.s)) "__class__" = some (some (.builtin "object.__class__")) ∧ PySem.W.mroIn K (He.ga K c.s) (.type "object") = some true
  sp : PySem.W.specialIn K (.builtin "object.__class__") "__get__" = some (some (.builtin "getset_descriptor.__get__")) ∧ PySem.W.takesIn K (.builtin "object.__class__") = some true
  kit : ∀ c ∈ cs, ∀ t ∈ ts, PySem.W.kitOne K (.ref (He.ga K c.s)) (t.u K) = some (xsub c t)
  exm : ∀ c ∈ cs, ∀ t ∈ ts, PySem.W.exmOne K (.ref (He.ga K c.s)) (t.u K) = some (xsub c t)
theorem xtB_ok {K : PySem.W.Frag} {cs : List Ec} {ts : List Tn} (h : xtB K cs ts = true) : XT K cs ts := by
  obtain ⟨h1, h2⟩ := He.ba h
  obtain ⟨h3, h4⟩ := He.ba h2
  have g := fun c (hc : c ∈ cs) => He.ba (List.all_eq_true.mp h1 c hc)
  refine ⟨fun c hc => He.eqO_ok (g c hc).1, fun c hc => xfB_ok (He.ba (g c hc).2).1, fun c hc f hf => of_decide_eq_true (List.all_eq_true.mp (He.ba (He.ba (g c hc).2).2).1 f hf), fun c hc => ?_, ⟨of_decide_eq_true h3, of_decide_eq_true h4⟩, fun c hc t ht => ?_, fun c hc t ht => ?_⟩
  · have q := He.ba (He.ba (He.ba (g c hc).2).2).2
    exact ⟨of_decide_eq_true q.1, of_decide_eq_true (He.ba q.2).1⟩
  · have q := (He.ba (He.ba (He.ba (He.ba (g c hc).2).2).2).2).2
    exact of_decide_eq_true (He.ba (List.all_eq_true.mp q t ht)).1
  · have q := (He.ba (He.ba (He.ba (He.ba (g c hc).2).2).2).2).2
    exact of_decide_eq_true (He.ba (List.all_eq_true.mp q t ht)).2
section
variable {X : Cx} {Wx : MX} {cv : Ec → Value} {x : Str} {p pos pos2 : Pos} {c : Ec} {B nI iI : String} {tl : List Value}
theorem passN {X : Cx} : Passes (L2N.CX X.prog X.w) X E0 := fun _ _ _ _ _ _ _ h => by
  obtain ⟨_, _, _, _, _, _, _, _, _, _, _, _, e⟩ := h
  exact e.elim
def spI1 (C : Addr) (f : Str) : Sp := fun vs H Q E => ∃ a y, vs = [.ref a, y] ∧ H a = some (exo a C none) ∧ ∀ dx, H dx = none → dx ≠ a → Q .non (upd (upd H dx (exd dx [(f, y)])) a (exo a C (some dx)))
def spI2 (C : Addr) (f f2 : Str) : Sp := fun vs H Q E => ∃ a y y2, vs = [.ref a, y, y2] ∧ H a = some (exo a C none) ∧ ∀ dx, H dx = none → dx ≠ a → Q .non (upd (upd (upd H dx (exd dx [(f, y)])) a (exo a C (some dx))) dx (exd dx [(f2, y2), (f, y)]))
def tI1 (K : PySem.W.Frag) (B nI iI : String) (tl : List Value) (f m : Str) : TS := tSeq (tDrop (tXI K B nI iI tl (tCons (tVar 0) (tCons (tC (.str m)) tNil)))) (tXst K B nI iI tl f (tVar 0) (tVar 1))
def tI2 (K : PySem.W.Frag) (B nI iI : String) (tl : List Value) (f f2 m : Str) : TS := tSeq (tDrop (tXI K B nI iI tl (tCons (tVar 0) (tCons (tC (.str m)) tNil)))) (tSeq (tXst K B nI iI tl f (tVar 0) (tVar 1)) (tXst K B nI iI tl f2 (tVar 0) (tVar 2)))
section
variable {P : Program} {w : World} {K : PySem.W.Frag} {mg : Str → Option Value} {base : Heap} {xn qual : Str} {params : Arguments} {body : List Stmt} {scope : Scope} {kws : List (Str × V)} {fI : Addr} {fd : FuncData} {N ps : List Str} {C : Addr} {f f2 m : Str}
theorem xinit1 (F : FunD K xn qual params body scope [] kws fI fd) (S : FnScope N ps scope) (h2 : ps.length = 2) (hN : N.length = 2) (T : XCls K C B nI iI tl) (hno : PySem.W.findIn K (.ref C) f = some none)
    (d : ∀ (cdv : Value) (A : Around) (outer : List Env) (s : Shared) (H : Hp) (E : XK), PSs (cxOf (L2N.CX P w) P w K mg base N qual scope fI cdv A outer s H E) body (tI1 K B nI iI tl f m)) : FnOk P w K mg base (L2N.CX P w) 1 fI fd ps (spI1 C f) :=
  FunD.ok F S (fun vs H Q E ⟨a, y, e, _⟩ => by rw [e, h2]; rfl) fun cdv A outer s H vs Q E hr ⟨a, y, e, ha, k⟩ => ⟨_, d cdv A outer s H E, by
    subst e
    exact ⟨.ref a, rfl, a, C, [.str m], rfl, by simp, T, ha, y, rfl, .ref a, rfl, a, C, rfl, T, hno, Or.inl ⟨ha, k⟩⟩⟩
theorem xinit2 (F : FunD K xn qual params body scope [] kws fI fd) (S : FnScope N ps scope) (h2 : ps.length = 3) (hN : N.length = 3) (T : XCls K C B nI iI tl) (hno : PySem.W.findIn K (.ref C) f = some none) (hno2 : PySem.W.findIn K (.ref C) f2 = some none)
    (d : ∀ (cdv : Value) (A : Around) (outer : List Env) (s : Shared) (H : Hp) (E : XK), PSs (cxOf (L2N.CX P w) P w K mg base N qual scope fI cdv A outer s H E) body (tI2 K B nI iI tl f f2 m)) : FnOk P w K mg base (L2N.CX P w) 1 fI fd ps (spI2 C f f2) :=
  FunD.ok F S (fun vs H Q E ⟨a, y, y2, e, _⟩ => by rw [e, h2]; rfl) fun cdv A outer s H vs Q E hr ⟨a, y, y2, e, ha, k⟩ => ⟨_, d cdv A outer s H E, by
    subst e
    refine ⟨.ref a, rfl, a, C, [.str m], rfl, by simp, T, ha, y, rfl, .ref a, rfl, a, C, rfl, T, hno, Or.inl ⟨ha, fun dx hd ne => ?_⟩⟩
    exact ⟨y2, rfl, .ref a, rfl, a, C, rfl, T, hno2, Or.inr ⟨dx, [(f, y)], upd_same, by rw [upd_ne ne, upd_same], by simp, k dx hd ne⟩⟩⟩
end
theorem upd_exc {H1 H2 : Hp} {a dx : Addr} {fs : List (Str × V)} (ha : H1 a = none) (ne : dx ≠ a) (h : ∀ b, b ≠ a → b ≠ dx → H2 b = H1 b) : upd (L2.del H2 a) dx (.xd fs) = upd H1 dx (.xd fs) := by
  funext b
  by_cases hb : b = dx
  · rw [hb, upd_same, upd_same]
  · rw [upd_ne hb, upd_ne hb]
    by_cases hc : b = a
    · rw [hc, del_same, ha]
    · rw [del_ne hc, h b hc hb]
end
section
variable {X : Cx} {Wx : MX} {cv : Ec → Value} {cs : List Ec} {ts : List Tn}
theorem look_at {f : Str} : ∀ {ns : List Str} {j : Nat} {ws : List W} {vs : List (Str × V)} {K : PySem.W.Frag} {g : G} {H : Hp} {w : W}, ns[j]? = some f → (∀ k, k < j → ns[k]? ≠ some f) → ns = vs.map (·.1) → RWs K g H ws (vs.map (·.2)) → ws[j]? = some w → ∃ v, vs.lookup f = some v ∧ RW K g H w v
  | [], _, _, _, _, _, _, _, h, _, _, _, _ => by cases h
  | n :: ns, j, ws, [], _, _, _, _, _, _, h, _, _ => by cases h
  | n :: ns, 0, [], (x, v) :: vs, _, _, _, _, _, _, _, h, _ => by cases h
  | n :: ns, 0, w0 :: ws, (x, v) :: vs, _, _, _, w, h1, _, h3, h4, h5 => by
    cases h4 with
    | cons h6 _ =>
      simp only [List.getElem?_cons_zero, Option.some.injEq] at h1 h5
      simp only [List.map_cons, List.cons.injEq] at h3
      subst h5
      refine ⟨v, ?_, h6⟩
      rw [List.lookup_cons, ← h3.1, h1]
      simp
  | n :: ns, j + 1, [], (x, v) :: vs, _, _, _, _, _, _, _, h, _ => by cases h
  | n :: ns, j + 1, w0 :: ws, (x, v) :: vs, _, _, _, w, h1, h2, h3, h4, h5 => by
    cases h4 with
    | cons _ h6 =>
      simp only [List.map_cons, List.cons.injEq] at h3
      obtain ⟨u, q1, q2⟩ := look_at (j := j) (by simpa using h1) (fun k hk => by have := h2 (k + 1) (by omega); simpa using this) h3.2 h6 (by simpa using h5)
      refine ⟨u, ?_, q2⟩
      have ne : (f == x) = false := by
        rw [beq_eq_false_iff_ne]
        intro z
        have := h2 0 (by omega)
        simp only [List.getElem?_cons_zero, ne_eq, Option.some.injEq] at this
        exact this (h3.1.trans z.symm)
      rw [List.lookup_cons, ne]
      exact q1
end
end MV

namespace MV
open PySem PySem.Spec PyProof.Rows L2 PySem.W
section
variable {prog : Program} {w : World} {A : Around} {E : Value → Shared → Prop} {s : Shared} {K : Frag} {x D : Addr} {ox : Obj} {od : Option Obj}
theorem findX {C : Addr} {name : Str} {a g : Value} (hc : (clsIn K C).isSome = true) (ha : findIn K (.ref C) name = some (some a)) (hg : specialIn K a "__get__" = some (some g)) (ht : takesIn K a = some true) : findObj K C od name = some (.bind g a) := by
  obtain ⟨cd, hc⟩ := Option.isSome_iff_exists.mp hc
  unfold findObj
  rw [hc, Option.bind_some, ha, Option.bind_some] <;> simp [hg, ht]
theorem klsX (T : XfC K D) (h2 : findIn K (.ref D) "__class__" = some (some (.builtin "object.__class__")) ∧ mroIn K D (.type "object") = some true)
    (h3 : specialIn K (.builtin "object.__class__") "__get__" = some (some (.builtin "getset_descriptor.__get__")) ∧ takesIn K (.builtin "object.__class__") = some true) {Q : Option Value → Shared → Prop}
    (X : K.In s.heap) (I : InstAt s.heap x ox D od) (h : Q (some (.ref D)) { s with toks := s.toks + 1 }) : wpAny (model prog w) A (getAttr? (.ref x) "__class__") Q E s := by
  have hf : findObj K D od "__class__" = some (.bind (.builtin "getset_descriptor.__get__") (.builtin "object.__class__")) := findX (by obtain ⟨cd, hc, _⟩ := any_some T.hdC; rw [hc] <;> rfl) h2.1 h3.1 h3.2
  obtain ⟨hp, g, d, t, os⟩ := s
  have L0 := I.type (M := model prog w)
  have L1 := looks_findIn (M := model prog w) X T.ga
  have L2 := looks_findIn (M := model prog w) X T.gg
  have L3 := looks_find (M := model prog w) X I hf
  have sub : Looks (model prog w) hp (isInstance (.ref x) (.type "BaseException")) true := L0.andThen (looks_subIn X T.exC)
  have n0 : (false && onTheHeap (Value.builtin "BaseException.__getattribute__")) = false := rfl
  have n2 : (Value.builtin "BaseException.__getattribute__" == Value.builtin "object.__getattribute__") = false := by decide +kernel
  have n1 : (onTheHeap (Value.ref D) && Value.builtin "BaseException.__getattribute__" == Value.builtin "object.__getattribute__") = false := by rw [n2] <;> rfl
  unfold getAttr? getAttrBy? getAttrBy
  refine wpAny_bind (wpAny_mkText (wpAny_bind (wpAny_attempt (wpAny_holding (wpAny_bind (L0.at (wpAny_bind (L1.at ?_))))))))
  show wpAny _ _ (if (onTheHeap (Value.ref D) && Value.builtin "BaseException.__getattribute__" == Value.builtin "object.__getattribute__") = true then _ else _) _ _ _
  rw [n1, if_neg Bool.false_ne_true]
  unfold getAttrByItsOwn hookBefore
  refine wpAny_bind ?_
  rw [if_pos (show onTheHeap (Value.ref D) = true by rfl)]
  refine L2.at (wpAny_bind (wpAny_attempt (wpAny_holding ?_)))
  unfold callGetattribute
  rw [n0, if_neg Bool.false_ne_true]
  unfold boundAndCalled
  rw [PySem.F.excAttr_ValueError.ga.bind (.ref x)]
  refine wpAny_bind (wpAny_pure ?_)
  show wpAny _ _ (call (.builtin "BaseException.__getattribute__") [.ref x, .str "__class__" t]) _ _ _
  refine wpAny_call (codeAny_call_builtin PySem.F.excAttr_ValueError.ga.plain PySem.F.entry_bexc_ga ?_)
  refine @check_slot (model prog w) _ _ ⟨hp, g, d, t + 1, os⟩ "BaseException.__getattribute__" "BaseException" "__getattribute__" (.ref x) [.str "__class__" t] [] _ (by decide +kernel) (by decide +kernel) sub (PySem.F.args_bexc_ga (.ref x) (.str "__class__" t)) ?_
  unfold Builtin.«object.__getattribute__»
  refine wpAny_bind (wpAny_of_eq (a := ((Value.ref x : Value), [Value.str "__class__" t])) (by first | rfl | (simp only [slotArgs] <;> rfl)) (wpAny_bind (wpAny_pure (wpAny_bind (L0.at (wpAny_bind (L3.at ?_)))))))
  show wpAny _ _ (holding [Value.builtin "object.__class__"] (call (.builtin "getset_descriptor.__get__") [.builtin "object.__class__", .ref x, .ref D]) >>= ret) _ _ _
  refine wpAny_bind (wpAny_holding (wpAny_call (class_get (s := ⟨hp, g, d, t + 1, os⟩) (ox := ox) (od := od) X I h2.2 (wpAny_pure ?_))))
  show wpAny _ _ (handedOut (.ref D)) _ _ _
  rw [handedOut_of (v := .ref D) rfl]
  first
    | exact wpAny_pure (wpAny_pure h)
    | exact wpAny_pure h
    | exact wpAny_pure (wpAny_bind (wpAny_pure (wpAny_pure h)))
theorem kitX_exc (T : XfC K D) (h2 : findIn K (.ref D) "__class__" = some (some (.builtin "object.__class__")) ∧ mroIn K D (.type "object") = some true)
    (h3 : specialIn K (.builtin "object.__class__") "__get__" = some (some (.builtin "getset_descriptor.__get__")) ∧ takesIn K (.builtin "object.__class__") = some true) : KitX K (.ref x) (.ref D) (fun h => InstAt h x ox D od) := by
  obtain ⟨cd, hc, _⟩ := any_some T.hdC
  refine ⟨fun _ _ _ I => I.type, fun _ _ X _ => ?_, fun h tp dd its n sl X htp => ?_, fun X I k => klsX T h2 h3 X I k⟩
  · unfold clsIn at hc
    split at hc
    · rename_i c1 d1 cd1 sl1 ho
      intro A1 Q1 E1 s1 k q
      unfold isType loadHead
      exact wpAny_bind (wpAny_loadPart (k _ _ (X _ _ ho)) (wpAny_pure q))
    · cases hc
  · refine Bool.eq_false_iff.mpr fun q => ?_
    have e : D = tp := Value.ref.inj (beq_iff_eq.mp q)
    subst e
    unfold clsIn at hc
    split at hc
    · rename_i c1 d1 cd1 sl1 ho
      have z := (X _ _ ho).symm.trans htp
      cases z
    · cases hc
end
end MV


namespace MV
open PySem PySem.Spec PyProof.Rows L2


noncomputable def D__law_begun : FS → R Fl := (sRet (eDisp (dC (eF (eC (.str "cells"))) (eF (eOr (eSl (eVar 0) none (some (eC (.int 63)))) (eLst (eAC (eF (eC (.int 0))) eAN)))) (dC (eF (eC (.str "spot"))) (eF (eC (.int 0))) (dC (eF (eC (.str "left"))) (eF (eC (.int 0))) dN)))))
noncomputable def F__law_begun : Fn := fnOf 1 D__law_begun
noncomputable def K__law_draw_7 : FS → R Fl := (sSeq (sPar (aCons (aF (eBin oMod (eBin oIx (eVar 0) (eC (.str "left"))) (eVar 1))) (aCons (aF (eBin oDiv (eBin oIx (eVar 0) (eC (.str "left"))) (eVar 1))) aNil)) [(gSet 5), (gItem (eVar 0) (eC (.str "left")))])
  (sRet (eVar 5)))
noncomputable def D__law_draw : FS → R Fl := (sSeq (sIf (toB (eBin (cOrd pLt) (eBin oIx (eVar 0) (eC (.str "left"))) (eVar 1))) (sSeq (sPar (aCons (aF (eBin oIx (eVar 0) (eC (.str "spot")))) (aCons (aF (eB bLen (tCo (eBin oIx (eVar 0) (eC (.str "cells"))) tN))) aNil)) [(gSet 2), (gSet 3)])
  (sSeq (sPar (aCons (aF (eBin oIx (eBin oIx (eVar 0) (eC (.str "cells"))) (eBin oMod (eVar 2) (eVar 3)))) (aCons (aF (eBin oAdd (eVar 2) (eC (.int 1)))) aNil)) [(gSet 4), (gItem (eVar 0) (eC (.str "spot")))])
  (sSeq (sAsg (aF (eBin oMod (eBin oPow (eBin oAdd (eBin oAdd (eBin oMod (eVar 4) (eC (.int 2147483647))) (eBin oMul (eC (.int 69621)) (eVar 2))) (eC (.int 48271))) (eC (.int 17))) (eBin oAdd (eBin oPow (eC (.int 10)) (eC (.int 50))) (eC (.int 151))))) (gItem (eVar 0) (eC (.str "left"))))
  (sIf (bAnd (toB (eBin (cOrd pGe) (eVar 4) (eBin oPow (eC (.int 10)) (eC (.int 18))))) (toB (eBin (cOrd pLt) (eVar 2) (eVar 3)))) (sAsg (aF (eBin oSub (eVar 4) (eBin oPow (eC (.int 10)) (eC (.int 18))))) (gItem (eVar 0) (eC (.str "left")))) sNil)))) sNil)
  K__law_draw_7)
noncomputable def F__law_draw : Fn := fnOf 6 D__law_draw
noncomputable def D__law_pick : FS → R Fl := (sRet (eBin oIx (eVar 1) (eCall F__law_draw [] (aCons (aL (eVar 0)) (aCons (aF (eB bLen (tCo (eVar 1) tN))) aNil)))))
noncomputable def F__law_pick : Fn := fnOf 2 D__law_pick

end MV



namespace MV
open PySem PySem.Spec PyProof.Rows L2
structure XR0 (K : PySem.W.Frag) (mg : Str → Option Value) (c : Ec) (tl : List Value) (nI : String) : Prop where
  q : PySem.W.excIn K (He.ga K c.s) tl nI = true
  g : mg c.s = some (.ref (He.ga K c.s))
  k : PySem.W.keepIn K (.ref (He.ga K c.s)) = true
  su : PySem.W.subIn K (.ref (He.ga K c.s)) (.type "BaseException") = some true
  ty : PySem.W.typeIn K (.ref (He.ga K c.s)) = some (.type "type")
  cv : cvOf mg c = .ref (He.ga K c.s)
theorem cv_of {K : PySem.W.Frag} {mg : Str → Option Value} {c : Ec} (h : mg c.s = some (.ref (He.ga K c.s))) : cvOf mg c = .ref (He.ga K c.s) := by unfold cvOf; rw [h]; rfl
theorem xr0_ok {K : PySem.W.Frag} {h : Heap} {mg : Str → Option Value} {c : Ec} {tl : List Value} {nI : String} (X : K.In h) (G : h.Ns mainGlobals mg) (b : xr0B c tl nI K = true) : XR0 K mg c tl nI := by
  obtain ⟨h1, b⟩ := He.ba b
  obtain ⟨h2, b⟩ := He.ba b
  obtain ⟨h3, b⟩ := He.ba b
  obtain ⟨h4, h5⟩ := He.ba b
  have e := PySem.W.mg_of X G (He.eqO_ok h2)
  exact ⟨h1, e, h3, of_decide_eq_true h4, of_decide_eq_true h5, cv_of e⟩
structure XR1 (K : PySem.W.Frag) (mg : Str → Option Value) (c : Ec) (B nI iI : String) (tl : List Value) : Prop where
  t : XCls K (He.ga K c.s) B nI iI tl
  g : mg c.s = some (.ref (He.ga K c.s))
  cv : cvOf mg c = .ref (He.ga K c.s)
  i : PySem.W.findIn K (.ref (He.ga K c.s)) "__init__" = some (some (.ref (He.ma K (He.ga K c.s) "__init__")))
  ti : PySem.W.typeIn K (.ref (He.ma K (He.ga K c.s) "__init__")) = some (.type "function")
  no : ∀ f ∈ c.fl, PySem.W.findIn K (.ref (He.ga K c.s)) f = some none
  b : PySem.W.findCls K (.type B) (.type "type") "__init__" = some (.val (.builtin iI))
  bn : mg (B : Str) = none
theorem xobj_ok {K : PySem.W.Frag} {C : Addr} {tl : List Value} {nI : String} (h : xobjB K C tl nI = true) : ∃ nm q N bs sn sub ab col dd k0 k1 k2 k3 k5, K.lookup C = some (excClassObj nm q C N bs tl true sn sub ab col dd k0 k1 k2 k3 k5 nI) := by
  unfold xobjB at h
  split at h
  · rename_i dd cd sl ho
    split at h
    · rename_i C1 bm k0 k1 k2 k3 n k5 hm hs
      simp only [Bool.and_eq_true, beq_iff_eq, Bool.not_eq_true'] at h
      obtain ⟨rfl, rfl, rfl, hdel, hdi⟩ := h
      obtain ⟨nm, bs, mro, ns, qn, hd, sn, sub, ab, col, del⟩ := cd
      dsimp only at hm hdel hdi
      subst hm hdel hdi
      have hsl : sl = #[k0, k1, k2, k3, some (.builtin n), k5] := by
        obtain ⟨l⟩ := sl
        simp only at hs
        rw [hs]
      subst hsl
      exact ⟨_, _, _, _, _, _, _, _, _, _, _, _, _, _, ho⟩
    · cases h
  · cases h
theorem clsB_ok {o : Option PySem.W.CFound} {i : String} (h : clsB o i = true) : o = some (.val (.builtin i)) := by
  unfold clsB at h
  split at h
  · rw [of_decide_eq_true h]
  · cases h
theorem xr1_okB {K : PySem.W.Frag} {h : Heap} {mg : Str → Option Value} {c : Ec} {B nI iI : String} {tl : List Value} (fb : XB B nI iI tl) (sf : StoreFacts B tl "object.__setattr__" "object") (tt : PySem.W.excTail tl tl = true) (X : K.In h) (G : h.Ns mainGlobals mg) (b : xr1B c B nI iI tl K = true) : XR1 K mg c B nI iI tl := by
  obtain ⟨h1, b⟩ := He.ba b
  obtain ⟨h2, b⟩ := He.ba b
  obtain ⟨h3, b⟩ := He.ba b
  obtain ⟨h4, b⟩ := He.ba b
  obtain ⟨h5, b⟩ := He.ba b
  obtain ⟨h6, b⟩ := He.ba b
  obtain ⟨h7, b⟩ := He.ba b
  obtain ⟨h8, b⟩ := He.ba b
  obtain ⟨h9, b⟩ := He.ba b
  obtain ⟨ha, hb⟩ := He.ba b
  have e := PySem.W.mg_of X G (He.eqO_ok h2)
  exact ⟨⟨fb, sf, tt, xobj_ok h1, He.eqO_ok h6, of_decide_eq_true h4, of_decide_eq_true h5, h3⟩, e, cv_of e, He.eqO_ok h7, of_decide_eq_true h8, fun f hf => He.eqO_ok (List.all_eq_true.mp h9 f hf), clsB_ok ha, PySem.W.mg_none_of X G (He.eqO_ok hb)⟩
theorem xr1_ok {K : PySem.W.Frag} {h : Heap} {mg : Str → Option Value} {c : Ec} {B nI iI : String} {tl : List Value} (fb : ExcBaseFacts B nI iI tl) (sf : StoreFacts B tl "object.__setattr__" "object") (tt : PySem.W.excTail tl tl = true) (X : K.In h) (G : h.Ns mainGlobals mg) (b : xr1B c B nI iI tl K = true) : XR1 K mg c B nI iI tl := xr1_okB (.of fb) sf tt X G b
theorem typ_bK : typeOf (.type "KeyError") = pure (.type "type") := by kernel_rfl
theorem typ_bV : typeOf (.type "ValueError") = pure (.type "type") := by kernel_rfl
theorem typ_bI : typeOf (.type "IndexError") = pure (.type "type") := by kernel_rfl
end MV






set_option maxHeartbeats 1000000
namespace MV
open PySem PySem.Spec PyProof.Rows L2
theorem pe_pmk {X : Cx} {e : Expr} {t : L2.St → Hp → XK → Prop} (he : L2N.PMk X e t) : PE X e (fun σ H Q => t σ H fun cls d H' => ∀ a, H' a = none → Q (.ref a) (upd H' a (ExN cls d a))) := by
  refine ⟨fun pins s σ H Q I h => wpAny_mono (he pins s σ H _ I h) (fun u s' hm => ?_) fun _ _ z => z⟩
  obtain ⟨a, oe, vs, sI, H', cls, d, rfl, J, k, n0, e1, z, hv, hv1, na, hos, hb, hr, q⟩ := hm
  have new : ObjOk X.prog X.w (upd H' a (ExN cls d a)) s'.heap a (ExN cls d a) := by
    refine ⟨⟨oe, e1, z, vs, hv⟩, ⟨oe, e1⟩, fun h1 h2 p kk => ?_⟩
    obtain ⟨oe2, g1, g2, g3⟩ := p
    exact ⟨oe2, kk _ g1, g2, g3⟩
  have J2 := J.call (ch := []) (g' := s'.gens) (t' := s'.toks) (d' := s'.drawn) (Un.laidN k n0 na) (J.hok.laidN k na new) hb (fun _ z => nomatch z)
  have es : s' = { sI with heap := s'.heap, gens := s'.gens, drawn := s'.drawn, toks := s'.toks } := by
    cases s'
    cases sI
    simp only at hos
    subst hos
    rfl
  rw [es]
  exact ⟨.ref a, _, J2, rfl, q a na⟩
@[simp] def eMk0 (c : Ec) (st : FS) : R T := .ok (.w (.exn c [] [])) st
@[simp] def eMk (c : Ec) (ns : List Str) (d : FS → R (List W)) (st : FS) : R T := (d st).bind fun ws st1 => if ws.length = ns.length then .ok (.w (.exn c ns.reverse ws.reverse)) st1 else .stuck
section
variable {X : Cx} {Wx : MX} {x : Str} {p pos : Pos} {c : Ec} {B nI iI : String} {tl : List Value}
theorem ve_mk0 (F : ExcBaseFacts B nI iI tl) (q : PySem.W.excIn X.K (He.ga X.K c.s) tl nI = true) (gC : X.mg x = some (.ref (He.ga X.K c.s))) (kC : PySem.W.keepIn X.K (.ref (He.ga X.K c.s)) = true)
    (r : Raises X (.ref (He.ga X.K c.s))) (hg : Gl X x) (hdb : (x == ("__debug__" : Str)) = false := by decide) : VE X Wx (.Call (.Name x p) [] [] pos) (eMk0 c) :=
  PE_imp (pe_pmk (pmk_x0 F q gC kC r hg hdb)) fun σ H Q ⟨g, st, hr, k⟩ => fun a ha =>
    k (g.set a .fz) _ _ (Le.new ha) (hr.sim (Sim.new ha)) ⟨.exn ⟨G.set_same, upd_same⟩ (Or.inl ⟨rfl, rfl⟩) rfl .nil, fun _ z => nomatch z⟩
variable {fI : Addr} {fd : FuncData} {ps : List Str} {k : Nat} {e e2 : Expr} {d : FS → R (List W)} {f f2 : Str}
theorem mk_exn {K : PySem.W.Frag} {g0 g1 : G} {H0 H1 : Hp} {σ : L2.St} {st1 : FS} {Q : VK} {dx : Addr} {c : Ec} {ns : List Str} {ws : List W} {vs : List (Str × V)} (k1 : Ok K Wx g1 H1 σ (ZT K σ g0 H0) Q (.ok (.w (.exn c ns ws)) st1)) (r1 : Rel K g1 H1 st1 σ) (hd : H1 dx = none)
    (hn : ns = vs.map (·.1)) (hw : RWs K g1 H1 ws (vs.map (·.2))) (a : Addr) (ha : upd H1 dx (.xd vs) a = none) : Q (.ref a) (upd (upd H1 dx (.xd vs)) a (ExN (.ref (He.ga K c.s)) (some dx) a)) := by
  have e1 : Le g1 H1 (g1.set dx .fz) (upd H1 dx (.xd vs)) := Le.new hd
  have e2 := Le.new (g := g1.set dx .fz) (t := .fz) (o := ExN (.ref (He.ga K c.s)) (some dx) a) ha
  have hne : dx ≠ a := fun z => by rw [← z, upd_same] at ha; cases ha
  refine k1 ((g1.set dx .fz).set a .fz) _ _ (e1.trans e2) ((r1.sim (Sim.new hd)).sim (Sim.new ha)) ⟨.exn (vs := vs) ⟨G.set_same, upd_same⟩ (Or.inr ⟨dx, rfl, ?_, ?_⟩) hn (hw.keep (e1.trans e2).fzk), fun _ z => nomatch z⟩
  · rw [G.set_ne hne]; exact G.set_same
  · rw [upd_ne hne]; exact upd_same
theorem ve_mk1 (hcalm : X.calm = true) (T : XCls X.K (He.ga X.K c.s) B nI iI tl) (iC : PySem.W.findIn X.K (.ref (He.ga X.K c.s)) "__init__" = some (some (.ref fI))) (tI : PySem.W.typeIn X.K (.ref fI) = some (.type "function"))
    (F1 : FnOk X.prog X.w X.K X.mg X.base (L2N.CX X.prog X.w) k fI fd ps (spI1 (He.ga X.K c.s) f)) (hr : Room (k + 1) X.A) (hb : Binds X.K fd ps []) (hg : Gl X x) (hm : X.mg x = some (.ref (He.ga X.K c.s))) (ha : VA X Wx [e] d)
    (hdb : (x == ("__debug__" : Str)) = false := by decide) (he : starEach (e :: []) X.env = (false, eval e X.env) :: starEach [] X.env := by rfl) (hpl : (backTo pos (starEach [] X.env)).any (·.1) = false := by rfl) :
    VE X Wx (.Call (.Name x p) [e] [] pos) (eMk c [f] d) := PE_imp (pe_pmk (pmk_x T iC tI F1 hr hb passN hg hm ha hdb he hpl)) fun σ H Q ⟨g, st, hrl, k⟩ => by
  refine ⟨g, st, hrl, Ok.seq k fun ws st1 g1 H1 vs _ e1 r1 z1 k1 => ?_⟩
  match ws, vs, z1 with
  | [w], [y], .cons hw .nil =>
    refine ⟨by simp, fun a na => ⟨a, y, rfl, upd_same, fun dx hd ne => ⟨rfl, dx, [(f, y)], upd_same, by rw [upd_ne ne, upd_same], by rw [upd_ne ne] at hd; exact hd, ?_⟩⟩⟩
    have hd1 : H1 dx = none := by rw [upd_ne ne] at hd; exact hd
    rw [upd_exc na ne fun b h1 h2 => by rw [upd_ne h1, upd_ne h2, upd_ne h1]]
    exact mk_exn (ns := [f]) (ws := [w]) (vs := [(f, y)]) (k1.rebaseT e1) r1 hd1 rfl (.cons hw .nil)
  | [], vs, _ => exact k1.elim
  | _ :: _ :: _, vs, _ =>
    rw [if_neg (by simp)] at k1
    exact k1.elim
theorem ve_mk2 (hcalm : X.calm = true) (T : XCls X.K (He.ga X.K c.s) B nI iI tl) (iC : PySem.W.findIn X.K (.ref (He.ga X.K c.s)) "__init__" = some (some (.ref fI))) (tI : PySem.W.typeIn X.K (.ref fI) = some (.type "function"))
    (F1 : FnOk X.prog X.w X.K X.mg X.base (L2N.CX X.prog X.w) k fI fd ps (spI2 (He.ga X.K c.s) f f2)) (hr : Room (k + 1) X.A) (hb : Binds X.K fd ps []) (hg : Gl X x) (hm : X.mg x = some (.ref (He.ga X.K c.s))) (ha : VA X Wx [e, e2] d)
    (hdb : (x == ("__debug__" : Str)) = false := by decide) (he : starEach (e :: [e2]) X.env = (false, eval e X.env) :: starEach [e2] X.env := by rfl) (hpl : (backTo pos (starEach [e2] X.env)).any (·.1) = false := by rfl) :
    VE X Wx (.Call (.Name x p) [e, e2] [] pos) (eMk c [f, f2] d) := PE_imp (pe_pmk (pmk_x T iC tI F1 hr hb passN hg hm ha hdb he hpl)) fun σ H Q ⟨g, st, hrl, k⟩ => by
  refine ⟨g, st, hrl, Ok.seq k fun ws st1 g1 H1 vs _ e1 r1 z1 k1 => ?_⟩
  match ws, vs, z1 with
  | [w, w2], [y, y2], .cons hw (.cons hw2 .nil) =>
    refine ⟨by simp, fun a na => ⟨a, y, y2, rfl, upd_same, fun dx hd ne => ⟨rfl, dx, [(f2, y2), (f, y)], by rw [upd_ne (Ne.symm ne), upd_same], upd_same, by rw [upd_ne ne] at hd; exact hd, ?_⟩⟩⟩
    have hd1 : H1 dx = none := by rw [upd_ne ne] at hd; exact hd
    rw [upd_exc na ne fun b h1 h2 => by rw [upd_ne h2, upd_ne h1, upd_ne h2, upd_ne h1]]
    exact mk_exn (ns := [f2, f]) (ws := [w2, w]) (vs := [(f2, y2), (f, y)]) (k1.rebaseT e1) r1 hd1 rfl (.cons hw2 (.cons hw .nil))
  | [], vs, _ => exact k1.elim
  | [_], vs, _ => exact k1.elim
  | _ :: _ :: _ :: _, vs, _ =>
    rw [if_neg (by simp)] at k1
    exact k1.elim
end
def rXisE (K : PySem.W.Frag) (cs : List Ec) (ts : List Tn) : List V → Hp → VK → Prop := fun xs H Q => ∃ (a : Addr) (c : Ec) (d : Option Addr) (t : Tn), c ∈ cs ∧ t ∈ ts ∧ xs = [.ref a, t.v K] ∧ H a = some (ExN (.ref (He.ga K c.s)) d a) ∧ (d = none ∨ ∃ dd fs, d = some dd ∧ H dd = some (.xd fs)) ∧ Q (.bl (xsub c t)) H
theorem call_xisE {X : Cx} {cs : List Ec} {ts : List Tn} (X0 : XT X.K cs ts) : CallR X (.builtin "isinstance") (rXisE X.K cs ts) := by
  intro pins s σ H xs us Q I r h
  obtain ⟨a, c, d, t, hc, ht, rfl, ha, hd, q⟩ := h
  obtain ⟨⟨oe, hget, hz, vs, hv⟩, _⟩ := (show ObjOk X.prog X.w H s.heap a (ExN (.ref (He.ga X.K c.s)) d a) from I.hok a _ ha)
  have J : ∃ od, PySem.W.InstAt s.heap a oe (He.ga X.K c.s) od := by
    rcases hd with rfl | ⟨dd, fs, rfl, ea⟩
    · refine ⟨none, hget, hz.1, by unfold PySem.W.notCls; rw [hv] <;> rfl, by rw [hz.2.1]; trivial⟩
    · have hx : ObjOk X.prog X.w H s.heap dd (.xd fs) := I.hok dd _ ea
      obtain ⟨mA, hns, _⟩ := hx
      obtain ⟨od, ho, _⟩ := lookIn_ns hns
      exact ⟨some od, hget, hz.1, by unfold PySem.W.notCls; rw [hv] <;> rfl, by rw [hz.2.1]; exact ho⟩
  obtain ⟨od, J⟩ := J
  cases r with
  | cons rx rr =>
    cases rr with
    | cons rt rr =>
      cases rr
      cases rx
      rw [tn_det rt]
      exact PySem.W.kia_one (kitX_exc (X0.fld c hc) (X0.cl c hc) X0.sp) I.kIn J (X0.kit c hc t ht) (fun z => nomatch z) fun tk => ⟨.bl _, H, I.kept (t' := tk) fun _ _ z => z, rfl, q⟩
@[simp] def eIsE (cs : List Ec) (t : Tn) (d : FS → R T) (st : FS) : R T := (d st).bind fun v st1 => match v with
  | .w (.exn c _ _) => if c ∈ cs then .ok (.w (.bl (xsub c t))) st1 else .stuck
  | _ => .stuck
section
variable {X : Cx} {Wx : MX} {cs : List Ec} {ts : List Tn} {t : Tn} {e e2 : Expr} {d : FS → R T} {p1 pos : Pos} {f : Str}
theorem ve_isE (X0 : XT X.K cs ts) (ht : t ∈ ts) (hg : Gl X "isinstance") (hm : X.mg "isinstance" = none) (h1 : VE X Wx e d) (h2 : PE X e2 (tC (t.v X.K))) (hs2 : starEach (e2 :: []) X.env = (false, eval e2 X.env) :: starEach [] X.env := by rfl)
    (he : starEach (e :: [e2]) X.env = (false, eval e X.env) :: starEach [e2] X.env := by rfl) (hpl : (backTo pos (starEach [e2] X.env)).any (·.1) = false := by rfl) :
    VE X Wx (.Call (.Name "isinstance" p1) [e, e2] [] pos) (eIsE cs t d) :=
  PE_imp (pe_callB (call_xisE X0) hg hm MV.boot_isinstance (pa_cons h1 (pa_cons h2 pa_nil hs2) he) (by decide) (by decide) he hpl) fun σ H Q ⟨g, st, hr, k⟩ => by
    refine ⟨g, st, hr, Ok.seq k fun v st1 g1 H1 v1 _ e1 r1 z1 k1 => ?_⟩
    split at k1
    · rename_i c ns ws _
      split at k1
      · rename_i hc
        cases (show RW X.K g1 H1 (.exn c ns ws) v1 from z1.1) with
        | exn q1 q2 q3 q4 =>
          refine ⟨_, c, _, t, hc, ht, rfl, q1.2, ?_, ok_w (k1.rebaseT e1) r1 (.bl _)⟩
          rcases q2 with ⟨q, _⟩ | ⟨dd, q, _, q5⟩
          · exact Or.inl q
          · exact Or.inr ⟨dd, _, q, q5⟩
      · exact k1.elim
    · exact k1.elim
def tXfE (K : PySem.W.Frag) (f : Str) (te : TE) : TE := fun σ H Q => te σ H fun x H1 => ∃ (a C dd : Addr) (fs : List (Str × V)) (v : V), x = .ref a ∧ H1 a = some (ExN (.ref C) (some dd) a) ∧ H1 dd = some (.xd fs) ∧ fs.lookup f = some v ∧ XfC K C ∧ PySem.W.findIn K (.ref C) f = some none ∧ Q v H1
theorem pe_xfE {te : TE} (he : PE X e te) (hb : attributeBase e f X.env (eval e X.env) = eval e X.env := by rfl) : PE X (.Attribute e f pos) (tXfE X.K f te) := by
  refine ⟨fun pins s σ H Q I h => attr_of hb (thn (he.run pins s σ H _ I h) ?_)⟩
  rintro u s1 ⟨x, H1, J0, rx, a, C, dd, fs, v, rfl, ha, hd, hl, T, hno, hq⟩
  obtain rfl : u = Value.ref a := rx
  obtain ⟨⟨oe, p1, hz, vs, hv⟩, _⟩ := (show ObjOk X.prog X.w H1 s1.heap a (ExN (.ref C) (some dd) a) from J0.hok a _ ha)
  obtain ⟨mA, hns, hro⟩ := (show ObjOk X.prog X.w H1 s1.heap dd (.xd fs) from J0.hok dd _ hd)
  obtain ⟨od, ho, hlk⟩ := lookIn_ns hns
  obtain ⟨w, hw, rw_⟩ := RelO.some_of (v := v) (o := mA f) (by rw [← hl]; exact hro f)
  have K1 : PySem.W.InstAt s1.heap a oe C (some od) := ⟨p1, hz.1, by unfold PySem.W.notCls; rw [hv] <;> rfl, by rw [hz.2.1]; exact ho⟩
  exact HandSPX.exc_get J0.kIn K1 T.ga T.gg T.exC (PySem.W.findObj_own T.hdC hno rfl (by rw [hlk, hw])) (handed_of rw_) ⟨v, H1, J0.tok _, rw_, hq⟩
@[simp] def eXfE (cs : List Ec) (j : Nat) (f : Str) (d : FS → R T) (st : FS) : R T := (d st).bind fun v st1 => match v with
  | .w (.exn c ns ws) => if c ∈ cs ∧ f ∈ c.fl ∧ ns[j]? = some f ∧ (∀ k, k < j → ns[k]? ≠ some f) then (match ws[j]? with
    | some w => .ok (.w w) st1
    | none => .stuck) else .stuck
  | _ => .stuck
theorem ve_xfE {j : Nat} (X0 : XT X.K cs ts) (h1 : VE X Wx e d) (hb : attributeBase e f X.env (eval e X.env) = eval e X.env := by rfl) : VE X Wx (.Attribute e f pos) (eXfE cs j f d) :=
  PE_imp (pe_xfE h1 hb) fun σ H Q ⟨g, st, hr, k⟩ => by
    refine ⟨g, st, hr, Ok.seq k fun v st1 g1 H1 v1 _ e1 r1 z1 k1 => ?_⟩
    split at k1
    · rename_i c ns ws _
      split at k1
      · rename_i hc
        obtain ⟨hc, hf, hj, hk⟩ := hc
        split at k1
        · rename_i w hw
          cases (show RW X.K g1 H1 (.exn c ns ws) v1 from z1.1) with
          | @exn a _ od vs _ _ q1 q2 q3 q4 =>
            rcases q2 with ⟨q, q5⟩ | ⟨dd, q, _, q5⟩
            · subst q5
              cases q4
              cases hw
            · subst q
              obtain ⟨u, l1, l2⟩ := look_at hj hk q3 q4 hw
              exact ⟨a, _, dd, vs, u, rfl, q1.2, q5, l1, X0.fld c hc, X0.noa c hc f hf, ok_w (k1.rebaseT e1) r1 l2⟩
        · exact k1.elim
      · exact k1.elim
    · exact k1.elim
end
end MV


namespace LW
open PySem PySem.Spec PyProof.Rows L2 MV
noncomputable def K__law_under_8 : FS → R Fl := (sRet (eTup (eAC (eF (eVar 1)) (eAC (eF (eIsE [.hasSome, .isBroken, .isPut, .isRule, .noBound, .noDeed, .noFresh, .noGrow, .noKnot, .noMarks, .noPlan, .noPut, .noRule, .noText, .notOn, .notWider, .tooFar, .tooMany] (.bi .lookup) (eVar 0))) (eAC (eF (eLc (iR1 (eAC (eF (eB bLen (tCo (eVar 2) tN))) eAN)) (.nm 3) (bT (eBin oIx (eVar 2) (eVar 3))) (eF (eVar 3)) [3])) eAN)))))
noncomputable def D__law_under : FS → R Fl := (sSeq (sAsg (aF (eLst (eAC (eF (eIsE [.hasSome, .isBroken, .isPut, .isRule, .noBound, .noDeed, .noFresh, .noGrow, .noKnot, .noMarks, .noPlan, .noPut, .noRule, .noText, .notOn, .notWider, .tooFar, .tooMany] (.bi .value) (eVar 0))) (eAC (eF (eIsE [.hasSome, .isBroken, .isPut, .isRule, .noBound, .noDeed, .noFresh, .noGrow, .noKnot, .noMarks, .noPlan, .noPut, .noRule, .noText, .notOn, .notWider, .tooFar, .tooMany] (.bi .key) (eVar 0))) (eAC (eF (eIsE [.hasSome, .isBroken, .isPut, .isRule, .noBound, .noDeed, .noFresh, .noGrow, .noKnot, .noMarks, .noPlan, .noPut, .noRule, .noText, .notOn, .notWider, .tooFar, .tooMany] (.bi .index) (eVar 0))) eAN))))) (gSet 1))
  (sSeq (sAsg (aF (eLst (eAC (eF (eIsE [.hasSome, .isBroken, .isPut, .isRule, .noBound, .noDeed, .noFresh, .noGrow, .noKnot, .noMarks, .noPlan, .noPut, .noRule, .noText, .notOn, .notWider, .tooFar, .tooMany] (.own .noMarks) (eVar 0))) (eAC (eF (eIsE [.hasSome, .isBroken, .isPut, .isRule, .noBound, .noDeed, .noFresh, .noGrow, .noKnot, .noMarks, .noPlan, .noPut, .noRule, .noText, .notOn, .notWider, .tooFar, .tooMany] (.own .noPlan) (eVar 0))) (eAC (eF (eIsE [.hasSome, .isBroken, .isPut, .isRule, .noBound, .noDeed, .noFresh, .noGrow, .noKnot, .noMarks, .noPlan, .noPut, .noRule, .noText, .notOn, .notWider, .tooFar, .tooMany] (.own .noText) (eVar 0))) eAN))))) (gSet 2))
  (sSeq (sAsg (aF (eBin oAdd (eVar 2) (eLst (eAC (eF (eIsE [.hasSome, .isBroken, .isPut, .isRule, .noBound, .noDeed, .noFresh, .noGrow, .noKnot, .noMarks, .noPlan, .noPut, .noRule, .noText, .notOn, .notWider, .tooFar, .tooMany] (.own .noKnot) (eVar 0))) (eAC (eF (eIsE [.hasSome, .isBroken, .isPut, .isRule, .noBound, .noDeed, .noFresh, .noGrow, .noKnot, .noMarks, .noPlan, .noPut, .noRule, .noText, .notOn, .notWider, .tooFar, .tooMany] (.own .noFresh) (eVar 0))) (eAC (eF (eIsE [.hasSome, .isBroken, .isPut, .isRule, .noBound, .noDeed, .noFresh, .noGrow, .noKnot, .noMarks, .noPlan, .noPut, .noRule, .noText, .notOn, .notWider, .tooFar, .tooMany] (.own .noBound) (eVar 0))) eAN)))))) (gSet 2))
  (sSeq (sAsg (aF (eBin oAdd (eVar 2) (eLst (eAC (eF (eIsE [.hasSome, .isBroken, .isPut, .isRule, .noBound, .noDeed, .noFresh, .noGrow, .noKnot, .noMarks, .noPlan, .noPut, .noRule, .noText, .notOn, .notWider, .tooFar, .tooMany] (.own .noGrow) (eVar 0))) (eAC (eF (eIsE [.hasSome, .isBroken, .isPut, .isRule, .noBound, .noDeed, .noFresh, .noGrow, .noKnot, .noMarks, .noPlan, .noPut, .noRule, .noText, .notOn, .notWider, .tooFar, .tooMany] (.own .notWider) (eVar 0))) (eAC (eF (eIsE [.hasSome, .isBroken, .isPut, .isRule, .noBound, .noDeed, .noFresh, .noGrow, .noKnot, .noMarks, .noPlan, .noPut, .noRule, .noText, .notOn, .notWider, .tooFar, .tooMany] (.own .tooFar) (eVar 0))) eAN)))))) (gSet 2))
  (sSeq (sAsg (aF (eBin oAdd (eVar 2) (eLst (eAC (eF (eIsE [.hasSome, .isBroken, .isPut, .isRule, .noBound, .noDeed, .noFresh, .noGrow, .noKnot, .noMarks, .noPlan, .noPut, .noRule, .noText, .notOn, .notWider, .tooFar, .tooMany] (.own .isPut) (eVar 0))) (eAC (eF (eIsE [.hasSome, .isBroken, .isPut, .isRule, .noBound, .noDeed, .noFresh, .noGrow, .noKnot, .noMarks, .noPlan, .noPut, .noRule, .noText, .notOn, .notWider, .tooFar, .tooMany] (.own .notOn) (eVar 0))) (eAC (eF (eIsE [.hasSome, .isBroken, .isPut, .isRule, .noBound, .noDeed, .noFresh, .noGrow, .noKnot, .noMarks, .noPlan, .noPut, .noRule, .noText, .notOn, .notWider, .tooFar, .tooMany] (.own .isRule) (eVar 0))) eAN)))))) (gSet 2))
  (sSeq (sAsg (aF (eBin oAdd (eVar 2) (eLst (eAC (eF (eIsE [.hasSome, .isBroken, .isPut, .isRule, .noBound, .noDeed, .noFresh, .noGrow, .noKnot, .noMarks, .noPlan, .noPut, .noRule, .noText, .notOn, .notWider, .tooFar, .tooMany] (.own .noRule) (eVar 0))) (eAC (eF (eIsE [.hasSome, .isBroken, .isPut, .isRule, .noBound, .noDeed, .noFresh, .noGrow, .noKnot, .noMarks, .noPlan, .noPut, .noRule, .noText, .notOn, .notWider, .tooFar, .tooMany] (.own .tooMany) (eVar 0))) (eAC (eF (eIsE [.hasSome, .isBroken, .isPut, .isRule, .noBound, .noDeed, .noFresh, .noGrow, .noKnot, .noMarks, .noPlan, .noPut, .noRule, .noText, .notOn, .notWider, .tooFar, .tooMany] (.own .noPut) (eVar 0))) eAN)))))) (gSet 2))
  (sSeq (sAsg (aF (eBin oAdd (eVar 2) (eLst (eAC (eF (eIsE [.hasSome, .isBroken, .isPut, .isRule, .noBound, .noDeed, .noFresh, .noGrow, .noKnot, .noMarks, .noPlan, .noPut, .noRule, .noText, .notOn, .notWider, .tooFar, .tooMany] (.own .noDeed) (eVar 0))) (eAC (eF (eIsE [.hasSome, .isBroken, .isPut, .isRule, .noBound, .noDeed, .noFresh, .noGrow, .noKnot, .noMarks, .noPlan, .noPut, .noRule, .noText, .notOn, .notWider, .tooFar, .tooMany] (.own .isBroken) (eVar 0))) (eAC (eF (eIsE [.hasSome, .isBroken, .isPut, .isRule, .noBound, .noDeed, .noFresh, .noGrow, .noKnot, .noMarks, .noPlan, .noPut, .noRule, .noText, .notOn, .notWider, .tooFar, .tooMany] (.own .hasSome) (eVar 0))) eAN)))))) (gSet 2))
  K__law_under_8)))))))
noncomputable def F__law_under : Fn := fnOf 4 D__law_under
noncomputable def B_law_8 : FS → R Fl := (sSeq (sAsg (aF (eLst (eAC (eF (eBin (cOrd pLt) (eVar 7) (eC (.int 9)))) (eAC (eF (eChain (cOrd pLe) (cOrd pLt) (eC (.int 9)) (eVar 7) (eC (.int 13)))) (eAC (eF (eChain (cOrd pLe) (cOrd pLt) (eC (.int 13)) (eVar 7) (eC (.int 16)))) eAN))))) (gSet 8))
  (sIf (toB (eBin (cEqN true) (eCall F__law_under [] (aCons (aF (eBin oIx (eVar 6) (eVar 7))) aNil)) (eTup (eAC (eF (eVar 8)) (eAC (eF (eBin (cOrd pGt) (eVar 7) (eC (.int 8)))) (eAC (eF (eLst (eAC (eF (eVar 7)) eAN))) eAN)))))) (sRet (eC (.bl false))) sNil))
noncomputable def K_law_12 : FS → R Fl := (sSeq (sAsg (aF (eLst (eAC (eF (eXfE [.hasSome, .isBroken, .isPut, .isRule, .noBound, .noDeed, .noFresh, .noGrow, .noKnot, .noMarks, .noPlan, .noPut, .noRule, .noText, .notOn, .notWider, .tooFar, .tooMany] 0 "number" (eBin oIx (eVar 6) (eC (.int 3))))) (eAC (eF (eXfE [.hasSome, .isBroken, .isPut, .isRule, .noBound, .noDeed, .noFresh, .noGrow, .noKnot, .noMarks, .noPlan, .noPut, .noRule, .noText, .notOn, .notWider, .tooFar, .tooMany] 0 "lowest" (eBin oIx (eVar 6) (eC (.int 4))))) (eAC (eF (eXfE [.hasSome, .isBroken, .isPut, .isRule, .noBound, .noDeed, .noFresh, .noGrow, .noKnot, .noMarks, .noPlan, .noPut, .noRule, .noText, .notOn, .notWider, .tooFar, .tooMany] 1 "low" (eBin oIx (eVar 6) (eC (.int 5))))) (eAC (eF (eXfE [.hasSome, .isBroken, .isPut, .isRule, .noBound, .noDeed, .noFresh, .noGrow, .noKnot, .noMarks, .noPlan, .noPut, .noRule, .noText, .notOn, .notWider, .tooFar, .tooMany] 0 "high" (eBin oIx (eVar 6) (eC (.int 5))))) (eAC (eF (eXfE [.hasSome, .isBroken, .isPut, .isRule, .noBound, .noDeed, .noFresh, .noGrow, .noKnot, .noMarks, .noPlan, .noPut, .noRule, .noText, .notOn, .notWider, .tooFar, .tooMany] 0 "cap" (eBin oIx (eVar 6) (eC (.int 7))))) (eAC (eF (eXfE [.hasSome, .isBroken, .isPut, .isRule, .noBound, .noDeed, .noFresh, .noGrow, .noKnot, .noMarks, .noPlan, .noPut, .noRule, .noText, .notOn, .notWider, .tooFar, .tooMany] 0 "cap" (eBin oIx (eVar 6) (eC (.int 8))))) eAN)))))))) (gSet 9))
  (sSeq (sAsg (aF (eBin oAdd (eVar 9) (eLst (eAC (eF (eXfE [.hasSome, .isBroken, .isPut, .isRule, .noBound, .noDeed, .noFresh, .noGrow, .noKnot, .noMarks, .noPlan, .noPut, .noRule, .noText, .notOn, .notWider, .tooFar, .tooMany] 0 "name" (eBin oIx (eVar 6) (eC (.int 9))))) (eAC (eF (eXfE [.hasSome, .isBroken, .isPut, .isRule, .noBound, .noDeed, .noFresh, .noGrow, .noKnot, .noMarks, .noPlan, .noPut, .noRule, .noText, .notOn, .notWider, .tooFar, .tooMany] 0 "mark" (eBin oIx (eVar 6) (eC (.int 10))))) (eAC (eF (eXfE [.hasSome, .isBroken, .isPut, .isRule, .noBound, .noDeed, .noFresh, .noGrow, .noKnot, .noMarks, .noPlan, .noPut, .noRule, .noText, .notOn, .notWider, .tooFar, .tooMany] 0 "word" (eBin oIx (eVar 6) (eC (.int 11))))) (eAC (eF (eXfE [.hasSome, .isBroken, .isPut, .isRule, .noBound, .noDeed, .noFresh, .noGrow, .noKnot, .noMarks, .noPlan, .noPut, .noRule, .noText, .notOn, .notWider, .tooFar, .tooMany] 0 "word" (eBin oIx (eVar 6) (eC (.int 12))))) (eAC (eF (eXfE [.hasSome, .isBroken, .isPut, .isRule, .noBound, .noDeed, .noFresh, .noGrow, .noKnot, .noMarks, .noPlan, .noPut, .noRule, .noText, .notOn, .notWider, .tooFar, .tooMany] 0 "many" (eBin oIx (eVar 6) (eC (.int 13))))) eAN)))))))) (gSet 9))
  (sIf (toB (eBin (cEqN true) (eB bReprA (tCo (eVar 9) tN)) (eB bReprA (tCo (eLst (eAC (eF (eVar 3)) (eAC (eF (eVar 3)) (eAC (eF (eVar 3)) (eAC (eF (eBin oSub (eVar 3) (eC (.int 1)))) (eAC (eF (eVar 3)) (eAC (eF (eVar 3)) (eAC (eF (eVar 3)) (eAC (eF (eVar 4)) (eAC (eF (eVar 5)) (eAC (eF (eVar 5)) (eAC (eF (eVar 3)) eAN)))))))))))) tN)))) (sRet (eC (.bl false))) sNil)))
noncomputable def K_law_7 : FS → R Fl := (sSeq (sAsg (aF (eBin oAdd (eVar 6) (eLst (eAC (eF (eMk .tooMany ["many"] (eAC (eF (eVar 3)) eAN))) (eAC (eF (eMk0 .noPut)) (eAC (eF (eMk0 .noDeed)) (eAC (eF (eMk0 .isBroken)) (eAC (eF (eMk0 .hasSome)) eAN)))))))) (gSet 6))
  (sSeq (sFor (iR1 (eAC (eF (eC (.int 18))) eAN)) (gSet 7) B_law_8 [])
  K_law_12))
noncomputable def K_law_6 : FS → R Fl := (sSeq (sAsg (aF (eBin oAdd (eVar 6) (eLst (eAC (eF (eMk .notWider ["cap"] (eAC (eF (eVar 3)) eAN))) (eAC (eF (eMk .tooFar ["cap"] (eAC (eF (eVar 3)) eAN))) (eAC (eF (eMk .isPut ["name"] (eAC (eF (eVar 3)) eAN))) (eAC (eF (eMk .notOn ["mark"] (eAC (eF (eVar 4)) eAN))) (eAC (eF (eMk .isRule ["word"] (eAC (eF (eVar 5)) eAN))) (eAC (eF (eMk .noRule ["word"] (eAC (eF (eVar 5)) eAN))) eAN))))))))) (gSet 6))
  K_law_7)
noncomputable def B_law_2 : FS → R Fl := (sSeq (sPar (aCons (aF (eBin oAdd (eC (.int 2)) (eCall F__law_draw [] (aCons (aL (eVar 1)) (aCons (aF (eC (.int 59))) aNil))))) (aCons (aF (eCall F__law_pick [] (aCons (aL (eVar 1)) (aCons (aF (eLst (eAC (eF (eC .non)) (eAC (eF (eC (.int 5))) (eAC (eF (eNeg (eC (.int 7)))) (eAC (eF (eBin oPow (eC (.int 10)) (eC (.int 9)))) (eAC (eF (eBin oAdd (eC (.int 1)) (eCall F__law_draw [] (aCons (aL (eVar 1)) (aCons (aF (eBin oPow (eC (.int 10)) (eC (.int 6)))) aNil))))) eAN))))))) aNil)))) aNil)) [(gSet 3), (gSet 4)])
  (sSeq (sAsg (aF (eCall F__law_pick [] (aCons (aL (eVar 1)) (aCons (aF (eLst (eAC (eF (eC (.str "a"))) (eAC (eF (eC (.str "zz"))) (eAC (eF (eC (.str "least"))) (eAC (eF (eC (.str "most"))) eAN)))))) aNil)))) (gSet 5))
  (sSeq (sAsg (aF (eLst (eAC (eF (eMk0 .noMarks)) (eAC (eF (eMk0 .noPlan)) (eAC (eF (eMk0 .noText)) (eAC (eF (eMk .noKnot ["number"] (eAC (eF (eVar 3)) eAN))) (eAC (eF (eMk .noFresh ["lowest"] (eAC (eF (eVar 3)) eAN))) (eAC (eF (eMk .noBound ["low", "high"] (eAC (eF (eVar 3)) (eAC (eF (eBin oSub (eVar 3) (eC (.int 1)))) eAN)))) (eAC (eF (eMk0 .noGrow)) eAN))))))))) (gSet 6))
  K_law_6)))
noncomputable def K_law_16 : FS → R Fl := (sRet (eC (.bl true)))
noncomputable def D_law : FS → R Fl := (sSeq (sAsg (aO (eCall F__law_begun [] (aCons (aL (eVar 0)) aNil))) (gObj 1))
  (sSeq (sFor (iR1 (eAC (eF (eC (.int 3))) eAN)) (gSet 2) B_law_2 [])
  K_law_16))
noncomputable def F_law : Fn := fnOf 10 D_law
structure Cn (K : PySem.W.Frag) (h : Heap) (mg : Str → Option Value) : Prop where
  x : K.In h
  g : h.Ns mainGlobals mg
  c : SaysM HD.ck HD.fa HD.fn K
section
variable {w : World} {K : PySem.W.Frag} {mg : Str → Option Value} {h base : Heap}
theorem xs_IsPut : FnScope ["self", "name"] ["self", "name"] (defScope (HD.mem 10 0)) := ⟨rfl, rfl, rfl, by decide +kernel, rfl, by decide +kernel, by decide +kernel⟩
theorem xr_IsPut (C : Cn K h mg) : ∃ fd, FnOk (PySem.Challenge.rw_mostclauses_k99_refusals_made).prog w K mg base (L2N.CX (PySem.Challenge.rw_mostclauses_k99_refusals_made).prog w) 1 (He.ma K (He.ga K (Ec.s .isPut)) "__init__") fd ["self", "name"] (spI1 (He.ga K (Ec.s .isPut)) "name") ∧ Binds K fd ["self", "name"] [] := by
  obtain ⟨fd, F⟩ := C.c.b.2.def_ 5 (d := HD.d5) rfl
  have r := xr1_okB xb_KeyError store_KeyError (by decide +kernel) C.x C.g (C.c.chk 3 (f := HD.xr_IsPut) rfl)
  have sc := xs_IsPut
  exact ⟨fd, xinit1 F sc rfl rfl r.t (r.no "name" (by simp)) (fun cdv A outer s H E => pss_cons (ps_expr (pe_xi (B := "KeyError") rfl r.bn (by decide +kernel) typ_bK (by decide +kernel) (by decide +kernel) (by decide +kernel) r.b (pa_cons (pv 0) (pa_cons pe_str pa_nil)))) (pss_one (ps_xst (pv 0) (pv 1)))), F.bindsN fun _ _ _ _ _ _ us hl => match us, hl with | [_, _], _ => rfl⟩
theorem xs_IsRule : FnScope ["self", "word"] ["self", "word"] (defScope (HD.mem 12 0)) := ⟨rfl, rfl, rfl, by decide +kernel, rfl, by decide +kernel, by decide +kernel⟩
theorem xr_IsRule (C : Cn K h mg) : ∃ fd, FnOk (PySem.Challenge.rw_mostclauses_k99_refusals_made).prog w K mg base (L2N.CX (PySem.Challenge.rw_mostclauses_k99_refusals_made).prog w) 1 (He.ma K (He.ga K (Ec.s .isRule)) "__init__") fd ["self", "word"] (spI1 (He.ga K (Ec.s .isRule)) "word") ∧ Binds K fd ["self", "word"] [] := by
  obtain ⟨fd, F⟩ := C.c.b.2.def_ 6 (d := HD.d6) rfl
  have r := xr1_okB xb_KeyError store_KeyError (by decide +kernel) C.x C.g (C.c.chk 4 (f := HD.xr_IsRule) rfl)
  have sc := xs_IsRule
  exact ⟨fd, xinit1 F sc rfl rfl r.t (r.no "word" (by simp)) (fun cdv A outer s H E => pss_cons (ps_expr (pe_xi (B := "KeyError") rfl r.bn (by decide +kernel) typ_bK (by decide +kernel) (by decide +kernel) (by decide +kernel) r.b (pa_cons (pv 0) (pa_cons pe_str pa_nil)))) (pss_one (ps_xst (pv 0) (pv 1)))), F.bindsN fun _ _ _ _ _ _ us hl => match us, hl with | [_, _], _ => rfl⟩
theorem xs_NoBound : FnScope ["self", "low", "high"] ["self", "low", "high"] (defScope (HD.mem 6 0)) := ⟨rfl, rfl, rfl, by decide +kernel, rfl, by decide +kernel, by decide +kernel⟩
theorem xr_NoBound (C : Cn K h mg) : ∃ fd, FnOk (PySem.Challenge.rw_mostclauses_k99_refusals_made).prog w K mg base (L2N.CX (PySem.Challenge.rw_mostclauses_k99_refusals_made).prog w) 1 (He.ma K (He.ga K (Ec.s .noBound)) "__init__") fd ["self", "low", "high"] (spI2 (He.ga K (Ec.s .noBound)) "low" "high") ∧ Binds K fd ["self", "low", "high"] [] := by
  obtain ⟨fd, F⟩ := C.c.b.2.def_ 7 (d := HD.d7) rfl
  have r := xr1_ok PySem.F.excBase_ValueError PySem.F.store_ValueError (by decide +kernel) C.x C.g (C.c.chk 5 (f := HD.xr_NoBound) rfl)
  have sc := xs_NoBound
  exact ⟨fd, xinit2 F sc rfl rfl r.t (r.no "low" (by simp)) (r.no "high" (by simp)) (fun cdv A outer s H E => pss_cons (ps_expr (pe_xi (B := "ValueError") rfl r.bn (by decide +kernel) typ_bV (by decide +kernel) (by decide +kernel) (by decide +kernel) r.b (pa_cons (pv 0) (pa_cons pe_str pa_nil)))) (pss_cons (ps_xst (pv 0) (pv 1)) (pss_one (ps_xst (pv 0) (pv 2))))), F.bindsN fun _ _ _ _ _ _ us hl => match us, hl with | [_, _, _], _ => rfl⟩
theorem xs_NoFresh : FnScope ["self", "lowest"] ["self", "lowest"] (defScope (HD.mem 5 0)) := ⟨rfl, rfl, rfl, by decide +kernel, rfl, by decide +kernel, by decide +kernel⟩
theorem xr_NoFresh (C : Cn K h mg) : ∃ fd, FnOk (PySem.Challenge.rw_mostclauses_k99_refusals_made).prog w K mg base (L2N.CX (PySem.Challenge.rw_mostclauses_k99_refusals_made).prog w) 1 (He.ma K (He.ga K (Ec.s .noFresh)) "__init__") fd ["self", "lowest"] (spI1 (He.ga K (Ec.s .noFresh)) "lowest") ∧ Binds K fd ["self", "lowest"] [] := by
  obtain ⟨fd, F⟩ := C.c.b.2.def_ 8 (d := HD.d8) rfl
  have r := xr1_ok PySem.F.excBase_ValueError PySem.F.store_ValueError (by decide +kernel) C.x C.g (C.c.chk 7 (f := HD.xr_NoFresh) rfl)
  have sc := xs_NoFresh
  exact ⟨fd, xinit1 F sc rfl rfl r.t (r.no "lowest" (by simp)) (fun cdv A outer s H E => pss_cons (ps_expr (pe_xi (B := "ValueError") rfl r.bn (by decide +kernel) typ_bV (by decide +kernel) (by decide +kernel) (by decide +kernel) r.b (pa_cons (pv 0) (pa_cons pe_str pa_nil)))) (pss_one (ps_xst (pv 0) (pv 1)))), F.bindsN fun _ _ _ _ _ _ us hl => match us, hl with | [_, _], _ => rfl⟩
theorem xs_NoKnot : FnScope ["self", "number"] ["self", "number"] (defScope (HD.mem 4 0)) := ⟨rfl, rfl, rfl, by decide +kernel, rfl, by decide +kernel, by decide +kernel⟩
theorem xr_NoKnot (C : Cn K h mg) : ∃ fd, FnOk (PySem.Challenge.rw_mostclauses_k99_refusals_made).prog w K mg base (L2N.CX (PySem.Challenge.rw_mostclauses_k99_refusals_made).prog w) 1 (He.ma K (He.ga K (Ec.s .noKnot)) "__init__") fd ["self", "number"] (spI1 (He.ga K (Ec.s .noKnot)) "number") ∧ Binds K fd ["self", "number"] [] := by
  obtain ⟨fd, F⟩ := C.c.b.2.def_ 9 (d := HD.d9) rfl
  have r := xr1_ok PySem.F.excBase_ValueError PySem.F.store_ValueError (by decide +kernel) C.x C.g (C.c.chk 9 (f := HD.xr_NoKnot) rfl)
  have sc := xs_NoKnot
  exact ⟨fd, xinit1 F sc rfl rfl r.t (r.no "number" (by simp)) (fun cdv A outer s H E => pss_cons (ps_expr (pe_xi (B := "ValueError") rfl r.bn (by decide +kernel) typ_bV (by decide +kernel) (by decide +kernel) (by decide +kernel) r.b (pa_cons (pv 0) (pa_cons pe_str pa_nil)))) (pss_one (ps_xst (pv 0) (pv 1)))), F.bindsN fun _ _ _ _ _ _ us hl => match us, hl with | [_, _], _ => rfl⟩
theorem xs_NoRule : FnScope ["self", "word"] ["self", "word"] (defScope (HD.mem 13 0)) := ⟨rfl, rfl, rfl, by decide +kernel, rfl, by decide +kernel, by decide +kernel⟩
theorem xr_NoRule (C : Cn K h mg) : ∃ fd, FnOk (PySem.Challenge.rw_mostclauses_k99_refusals_made).prog w K mg base (L2N.CX (PySem.Challenge.rw_mostclauses_k99_refusals_made).prog w) 1 (He.ma K (He.ga K (Ec.s .noRule)) "__init__") fd ["self", "word"] (spI1 (He.ga K (Ec.s .noRule)) "word") ∧ Binds K fd ["self", "word"] [] := by
  obtain ⟨fd, F⟩ := C.c.b.2.def_ 10 (d := HD.d10) rfl
  have r := xr1_okB xb_KeyError store_KeyError (by decide +kernel) C.x C.g (C.c.chk 13 (f := HD.xr_NoRule) rfl)
  have sc := xs_NoRule
  exact ⟨fd, xinit1 F sc rfl rfl r.t (r.no "word" (by simp)) (fun cdv A outer s H E => pss_cons (ps_expr (pe_xi (B := "KeyError") rfl r.bn (by decide +kernel) typ_bK (by decide +kernel) (by decide +kernel) (by decide +kernel) r.b (pa_cons (pv 0) (pa_cons pe_str pa_nil)))) (pss_one (ps_xst (pv 0) (pv 1)))), F.bindsN fun _ _ _ _ _ _ us hl => match us, hl with | [_, _], _ => rfl⟩
theorem xs_NotOn : FnScope ["self", "mark"] ["self", "mark"] (defScope (HD.mem 11 0)) := ⟨rfl, rfl, rfl, by decide +kernel, rfl, by decide +kernel, by decide +kernel⟩
theorem xr_NotOn (C : Cn K h mg) : ∃ fd, FnOk (PySem.Challenge.rw_mostclauses_k99_refusals_made).prog w K mg base (L2N.CX (PySem.Challenge.rw_mostclauses_k99_refusals_made).prog w) 1 (He.ma K (He.ga K (Ec.s .notOn)) "__init__") fd ["self", "mark"] (spI1 (He.ga K (Ec.s .notOn)) "mark") ∧ Binds K fd ["self", "mark"] [] := by
  obtain ⟨fd, F⟩ := C.c.b.2.def_ 11 (d := HD.d11) rfl
  have r := xr1_okB xb_KeyError store_KeyError (by decide +kernel) C.x C.g (C.c.chk 15 (f := HD.xr_NotOn) rfl)
  have sc := xs_NotOn
  exact ⟨fd, xinit1 F sc rfl rfl r.t (r.no "mark" (by simp)) (fun cdv A outer s H E => pss_cons (ps_expr (pe_xi (B := "KeyError") rfl r.bn (by decide +kernel) typ_bK (by decide +kernel) (by decide +kernel) (by decide +kernel) r.b (pa_cons (pv 0) (pa_cons pe_str pa_nil)))) (pss_one (ps_xst (pv 0) (pv 1)))), F.bindsN fun _ _ _ _ _ _ us hl => match us, hl with | [_, _], _ => rfl⟩
theorem xs_NotWider : FnScope ["self", "cap"] ["self", "cap"] (defScope (HD.mem 8 0)) := ⟨rfl, rfl, rfl, by decide +kernel, rfl, by decide +kernel, by decide +kernel⟩
theorem xr_NotWider (C : Cn K h mg) : ∃ fd, FnOk (PySem.Challenge.rw_mostclauses_k99_refusals_made).prog w K mg base (L2N.CX (PySem.Challenge.rw_mostclauses_k99_refusals_made).prog w) 1 (He.ma K (He.ga K (Ec.s .notWider)) "__init__") fd ["self", "cap"] (spI1 (He.ga K (Ec.s .notWider)) "cap") ∧ Binds K fd ["self", "cap"] [] := by
  obtain ⟨fd, F⟩ := C.c.b.2.def_ 12 (d := HD.d12) rfl
  have r := xr1_ok PySem.F.excBase_ValueError PySem.F.store_ValueError (by decide +kernel) C.x C.g (C.c.chk 16 (f := HD.xr_NotWider) rfl)
  have sc := xs_NotWider
  exact ⟨fd, xinit1 F sc rfl rfl r.t (r.no "cap" (by simp)) (fun cdv A outer s H E => pss_cons (ps_expr (pe_xi (B := "ValueError") rfl r.bn (by decide +kernel) typ_bV (by decide +kernel) (by decide +kernel) (by decide +kernel) r.b (pa_cons (pv 0) (pa_cons pe_str pa_nil)))) (pss_one (ps_xst (pv 0) (pv 1)))), F.bindsN fun _ _ _ _ _ _ us hl => match us, hl with | [_, _], _ => rfl⟩
theorem xs_TooFar : FnScope ["self", "cap"] ["self", "cap"] (defScope (HD.mem 9 0)) := ⟨rfl, rfl, rfl, by decide +kernel, rfl, by decide +kernel, by decide +kernel⟩
theorem xr_TooFar (C : Cn K h mg) : ∃ fd, FnOk (PySem.Challenge.rw_mostclauses_k99_refusals_made).prog w K mg base (L2N.CX (PySem.Challenge.rw_mostclauses_k99_refusals_made).prog w) 1 (He.ma K (He.ga K (Ec.s .tooFar)) "__init__") fd ["self", "cap"] (spI1 (He.ga K (Ec.s .tooFar)) "cap") ∧ Binds K fd ["self", "cap"] [] := by
  obtain ⟨fd, F⟩ := C.c.b.2.def_ 13 (d := HD.d13) rfl
  have r := xr1_ok PySem.F.excBase_ValueError PySem.F.store_ValueError (by decide +kernel) C.x C.g (C.c.chk 17 (f := HD.xr_TooFar) rfl)
  have sc := xs_TooFar
  exact ⟨fd, xinit1 F sc rfl rfl r.t (r.no "cap" (by simp)) (fun cdv A outer s H E => pss_cons (ps_expr (pe_xi (B := "ValueError") rfl r.bn (by decide +kernel) typ_bV (by decide +kernel) (by decide +kernel) (by decide +kernel) r.b (pa_cons (pv 0) (pa_cons pe_str pa_nil)))) (pss_one (ps_xst (pv 0) (pv 1)))), F.bindsN fun _ _ _ _ _ _ us hl => match us, hl with | [_, _], _ => rfl⟩
theorem xs_TooMany : FnScope ["self", "many"] ["self", "many"] (defScope (HD.mem 14 0)) := ⟨rfl, rfl, rfl, by decide +kernel, rfl, by decide +kernel, by decide +kernel⟩
theorem xr_TooMany (C : Cn K h mg) : ∃ fd, FnOk (PySem.Challenge.rw_mostclauses_k99_refusals_made).prog w K mg base (L2N.CX (PySem.Challenge.rw_mostclauses_k99_refusals_made).prog w) 1 (He.ma K (He.ga K (Ec.s .tooMany)) "__init__") fd ["self", "many"] (spI1 (He.ga K (Ec.s .tooMany)) "many") ∧ Binds K fd ["self", "many"] [] := by
  obtain ⟨fd, F⟩ := C.c.b.2.def_ 14 (d := HD.d14) rfl
  have r := xr1_ok PySem.F.excBase_IndexError PySem.F.store_IndexError (by decide +kernel) C.x C.g (C.c.chk 18 (f := HD.xr_TooMany) rfl)
  have sc := xs_TooMany
  exact ⟨fd, xinit1 F sc rfl rfl r.t (r.no "many" (by simp)) (fun cdv A outer s H E => pss_cons (ps_expr (pe_xi (B := "IndexError") rfl r.bn (by decide +kernel) typ_bI (by decide +kernel) (by decide +kernel) (by decide +kernel) r.b (pa_cons (pv 0) (pa_cons pe_str pa_nil)))) (pss_one (ps_xst (pv 0) (pv 1)))), F.bindsN fun _ _ _ _ _ _ us hl => match us, hl with | [_, _], _ => rfl⟩
theorem sc__law_begun : FnScope ["_law_script"] ["_law_script"] (defScope (HD.top 20)) := ⟨rfl, rfl, rfl, by decide +kernel, rfl, by decide +kernel, by decide +kernel⟩
theorem fk__law_begun (C : Cn K h mg) {dvs : List V} {kws : List (Str × V)} {f : Addr} {fd : FuncData} (F : FunD K "_law_begun" "_law_begun" (defArgs (HD.top 20)) (defBody (HD.top 20)) (defScope (HD.top 20)) dvs kws f fd) (k : Nat) (hk : 1 ≤ k) : FnG (PySem.Challenge.rw_mostclauses_k99_refusals_made).prog w K mg base (L2N.CX (PySem.Challenge.rw_mostclauses_k99_refusals_made).prog w) k f fd ["_law_script"] (spF (cvOf mg) K 1 F__law_begun) := by
  have sc := sc__law_begun
  refine fnOk_of (L := 0) (N := ["_law_script"]) F sc rfl (fun k hk cdv A outer s H E hr hgd tk po => ?_) k hk
  have hu1 := hu_of hr
  have hu64 := hr.units
  have hu65 := hu65_of hr
  exact (vss_one (vs_ret (ve_disp (vp_cons (vw_of (ve_c pe_str)) (vw_of (ve_or (ve_slice (ve_var (pv 0)) po_none (po_some (ve_c pe_int))) (ve_or1 (ve_lst (va_cons (vw_of (ve_c pe_int)) va_nil))))) (vp_cons (vw_of (ve_c pe_str)) (vw_of (ve_c pe_int)) (vp_cons (vw_of (ve_c pe_str)) (vw_of (ve_c pe_int)) vp_nil))))))
theorem okc__law_begun (C : Cn K h mg) : DefOk (cvOf mg) (PySem.Challenge.rw_mostclauses_k99_refusals_made).prog w K mg base (1) "_law_begun" ["_law_script"] 1 (F__law_begun) [] := by
  obtain ⟨fd, F⟩ := C.c.b.2.def_ 0 (d := HD.d0) rfl
  exact defOk_of (ds := []) F (He.glo_ok C.x C.g (C.c.b.2.fact 0 (f := .glo "_law_begun") rfl)) (F.bindsN fun _ _ _ _ _ _ us hl => match us, hl with | [_], _ => rfl) .nil rfl (fk__law_begun C F)
theorem sc__law_draw : FnScope ["_law_tape", "_law_many", "_law_spot", "_law_most", "_law_cell", "_law_found"] ["_law_tape", "_law_many"] (defScope (HD.top 21)) := ⟨rfl, rfl, rfl, by decide +kernel, rfl, by decide +kernel, by decide +kernel⟩
theorem fk__law_draw (C : Cn K h mg) {dvs : List V} {kws : List (Str × V)} {f : Addr} {fd : FuncData} (F : FunD K "_law_draw" "_law_draw" (defArgs (HD.top 21)) (defBody (HD.top 21)) (defScope (HD.top 21)) dvs kws f fd) (k : Nat) (hk : 1 ≤ k) : FnG (PySem.Challenge.rw_mostclauses_k99_refusals_made).prog w K mg base (L2N.CX (PySem.Challenge.rw_mostclauses_k99_refusals_made).prog w) k f fd ["_law_tape", "_law_many"] (spF (cvOf mg) K 2 F__law_draw) := by
  have sc := sc__law_draw
  have g_len := He.free_ok C.x C.g (C.c.b.2.fact 5 (f := .free "len") rfl)
  refine fnOk_of (L := 0) (N := ["_law_tape", "_law_many", "_law_spot", "_law_most", "_law_cell", "_law_found"]) F sc rfl (fun k hk cdv A outer s H E hr hgd tk po => ?_) k hk
  have hu1 := hu_of hr
  have hu64 := hr.units
  have hu65 := hu65_of hr
  exact (vss_cons (vs_if (vb_cmp (op_lt) os_ord (ve_ix (ix_M hu1) os_ix (ve_var (pv 0)) (ve_c pe_str) (fun _ _ => rfl)) (ve_var (pv 1)) rfl) (vss_cons (vs_par2 rfl sc.nd (i := 2) (j := 3) rfl rfl (by decide) rfl rfl (vd_cons (va_f (ve_ix (ix_M hu1) os_ix (ve_var (pv 0)) (ve_c pe_str) (fun _ _ => rfl))) (vd_cons (va_f (ve_b (call_lenM) bs_len rfl g_len MV.boot_len (vt_cons (ve_ix (ix_M hu1) os_ix (ve_var (pv 0)) (ve_c pe_str) (fun _ _ => rfl)) vt_nil))) vd_nil)) nm_set nm_set rfl)
    (vss_cons (vs_par (n := 2) rfl (vd_cons (va_f (ve_ix (ix_M hu1) os_ix (ve_ix (ix_M hu1) os_ix (ve_var (pv 0)) (ve_c pe_str) (fun _ _ => rfl)) (ve_bin op_mod os_mod (ve_var (pv 2)) (ve_var (pv 3))) (fun _ _ => rfl))) (vd_cons (va_f (ve_bin op_addM os_add (ve_var (pv 2)) (ve_c pe_int))) vd_nil)) (vgs_cons (vg_nm nm_set (pg_name sc.nd (i := 4) rfl (by first | exact Or.inl rfl | exact Or.inr rfl))) (vgs_cons (vg_item hu1 (ve_var (pv 0)) (ve_c pe_str) fun _ => rfl) vgs_nil)) rfl (fun st xs st1 z => (len_cons (len_cons len_nil)) st xs st1 z) (by decide))
    (vss_cons (vs_asg (va_f (ve_bin op_mod os_mod (ve_bin op_pow os_pow (ve_bin op_addM os_add (ve_bin op_addM os_add (ve_bin op_mod os_mod (ve_var (pv 4)) (ve_c pe_int)) (ve_bin op_mulM os_mul (ve_c pe_int) (ve_var (pv 2)))) (ve_c pe_int)) (ve_c pe_int)) (ve_bin op_addM os_add (ve_bin op_pow os_pow (ve_c pe_int) (ve_c pe_int)) (ve_c pe_int)))) (vg_item hu1 (ve_var (pv 0)) (ve_c pe_str) fun _ => rfl))
    (vss_one (vs_if (vb_w (vbw_and (vb_cmp (op_ge) os_ord (ve_var (pv 4)) (ve_bin op_pow os_pow (ve_c pe_int) (ve_c pe_int)) rfl) (vbw_and1 (vb_cmp (op_lt) os_ord (ve_var (pv 2)) (ve_var (pv 3)) rfl)))) (vss_one (vs_asg (va_f (ve_bin op_sub os_sub (ve_var (pv 4)) (ve_bin op_pow os_pow (ve_c pe_int) (ve_c pe_int)))) (vg_item hu1 (ve_var (pv 0)) (ve_c pe_str) fun _ => rfl))) vss_nil))))) vss_nil)
    (vss_cons (vs_par (n := 2) rfl (vd_cons (va_f (ve_bin op_mod os_mod (ve_ix (ix_M hu1) os_ix (ve_var (pv 0)) (ve_c pe_str) (fun _ _ => rfl)) (ve_var (pv 1)))) (vd_cons (va_f (ve_bin op_fdivW os_div (ve_ix (ix_M hu1) os_ix (ve_var (pv 0)) (ve_c pe_str) (fun _ _ => rfl)) (ve_var (pv 1)))) vd_nil)) (vgs_cons (vg_nm nm_set (pg_name sc.nd (i := 5) rfl (by first | exact Or.inl rfl | exact Or.inr rfl))) (vgs_cons (vg_item hu1 (ve_var (pv 0)) (ve_c pe_str) fun _ => rfl) vgs_nil)) rfl (fun st xs st1 z => (len_cons (len_cons len_nil)) st xs st1 z) (by decide))
    (vss_one (vs_ret (ve_var (pv 5))))))
theorem okc__law_draw (C : Cn K h mg) : DefOk (cvOf mg) (PySem.Challenge.rw_mostclauses_k99_refusals_made).prog w K mg base (1) "_law_draw" ["_law_tape", "_law_many"] 2 (F__law_draw) [] := by
  obtain ⟨fd, F⟩ := C.c.b.2.def_ 1 (d := HD.d1) rfl
  exact defOk_of (ds := []) F (He.glo_ok C.x C.g (C.c.b.2.fact 1 (f := .glo "_law_draw") rfl)) (F.bindsN fun _ _ _ _ _ _ us hl => match us, hl with | [_, _], _ => rfl) .nil rfl (fk__law_draw C F)
theorem sc__law_pick : FnScope ["_law_tape", "_law_some"] ["_law_tape", "_law_some"] (defScope (HD.top 22)) := ⟨rfl, rfl, rfl, by decide +kernel, rfl, by decide +kernel, by decide +kernel⟩
theorem fk__law_pick (C : Cn K h mg) {dvs : List V} {kws : List (Str × V)} {f : Addr} {fd : FuncData} (F : FunD K "_law_pick" "_law_pick" (defArgs (HD.top 22)) (defBody (HD.top 22)) (defScope (HD.top 22)) dvs kws f fd) (k : Nat) (hk : 2 ≤ k) : FnG (PySem.Challenge.rw_mostclauses_k99_refusals_made).prog w K mg base (L2N.CX (PySem.Challenge.rw_mostclauses_k99_refusals_made).prog w) k f fd ["_law_tape", "_law_some"] (spF (cvOf mg) K 2 F__law_pick) := by
  have sc := sc__law_pick
  have g_len := He.free_ok C.x C.g (C.c.b.2.fact 5 (f := .free "len") rfl)
  have c__law_draw := okc__law_draw (w := w) (base := base) C
  refine fnOk_of (L := 1) (N := ["_law_tape", "_law_some"]) F sc rfl (fun k hk cdv A outer s H E hr hgd tk po => ?_) k hk
  have hu1 := hu_of hr
  have hu64 := hr.units
  have hu65 := hu65_of hr
  exact (vss_one (vs_ret (ve_ix (ix_M hu1) os_ix (ve_var (pv 1)) (ve_own c__law_draw (k := k) (by omega) hr hgd rfl tk (vr_cons (va_l (ve_var (pv 0))) (vr_cons (va_f (ve_b (call_lenM) bs_len rfl g_len MV.boot_len (vt_cons (ve_var (pv 1)) vt_nil))) vr_nil)) (len_cons (len_cons len_nil))) (fun _ _ => rfl))))
theorem okc__law_pick (C : Cn K h mg) : DefOk (cvOf mg) (PySem.Challenge.rw_mostclauses_k99_refusals_made).prog w K mg base (2) "_law_pick" ["_law_tape", "_law_some"] 2 (F__law_pick) [] := by
  obtain ⟨fd, F⟩ := C.c.b.2.def_ 2 (d := HD.d2) rfl
  exact defOk_of (ds := []) F (He.glo_ok C.x C.g (C.c.b.2.fact 2 (f := .glo "_law_pick") rfl)) (F.bindsN fun _ _ _ _ _ _ us hl => match us, hl with | [_, _], _ => rfl) .nil rfl (fk__law_pick C F)
theorem sc__law_under : FnScope ["_law_error", "_law_some", "_law_kinds", "_law_k"] ["_law_error"] (defScope (HD.top 23)) := ⟨rfl, rfl, rfl, by decide +kernel, rfl, by decide +kernel, by decide +kernel⟩
theorem fk__law_under (C : Cn K h mg) {dvs : List V} {kws : List (Str × V)} {f : Addr} {fd : FuncData} (F : FunD K "_law_under" "_law_under" (defArgs (HD.top 23)) (defBody (HD.top 23)) (defScope (HD.top 23)) dvs kws f fd) (k : Nat) (hk : 1 ≤ k) : FnG (PySem.Challenge.rw_mostclauses_k99_refusals_made).prog w K mg base (L2N.CX (PySem.Challenge.rw_mostclauses_k99_refusals_made).prog w) k f fd ["_law_error"] (spF (cvOf mg) K 1 F__law_under) := by
  have sc := sc__law_under
  have g_len := He.free_ok C.x C.g (C.c.b.2.fact 5 (f := .free "len") rfl)
  have g_range := He.free_ok C.x C.g (C.c.b.2.fact 6 (f := .free "range") rfl)
  have g_isinstance := He.free_ok C.x C.g (C.c.b.2.fact 7 (f := .free "isinstance") rfl)
  have x0 : XT K [.hasSome, .isBroken, .isPut, .isRule, .noBound, .noDeed, .noFresh, .noGrow, .noKnot, .noMarks, .noPlan, .noPut, .noRule, .noText, .notOn, .notWider, .tooFar, .tooMany] [.own .hasSome, .bi .index, .own .isBroken, .own .isPut, .own .isRule, .bi .key, .bi .lookup, .own .noBound, .own .noDeed, .own .noFresh, .own .noGrow, .own .noKnot, .own .noMarks, .own .noPlan, .own .noPut, .own .noRule, .own .noText, .own .notOn, .own .notWider, .own .tooFar, .own .tooMany, .bi .value] := xtB_ok (C.c.chk 0 (f := HD.xtc) rfl)
  have g_LookupError := He.free_ok C.x C.g (C.c.b.2.fact 8 (f := .free "LookupError") rfl)
  have gx_HasSome := PySem.W.mg_of C.x C.g ((xtB_ok (C.c.chk 0 (f := HD.xtc) rfl) : XT K [.hasSome, .isBroken, .isPut, .isRule, .noBound, .noDeed, .noFresh, .noGrow, .noKnot, .noMarks, .noPlan, .noPut, .noRule, .noText, .notOn, .notWider, .tooFar, .tooMany] [.own .hasSome, .bi .index, .own .isBroken, .own .isPut, .own .isRule, .bi .key, .bi .lookup, .own .noBound, .own .noDeed, .own .noFresh, .own .noGrow, .own .noKnot, .own .noMarks, .own .noPlan, .own .noPut, .own .noRule, .own .noText, .own .notOn, .own .notWider, .own .tooFar, .own .tooMany, .bi .value]).nm .hasSome (by simp))
  have gx_IsBroken := PySem.W.mg_of C.x C.g ((xtB_ok (C.c.chk 0 (f := HD.xtc) rfl) : XT K [.hasSome, .isBroken, .isPut, .isRule, .noBound, .noDeed, .noFresh, .noGrow, .noKnot, .noMarks, .noPlan, .noPut, .noRule, .noText, .notOn, .notWider, .tooFar, .tooMany] [.own .hasSome, .bi .index, .own .isBroken, .own .isPut, .own .isRule, .bi .key, .bi .lookup, .own .noBound, .own .noDeed, .own .noFresh, .own .noGrow, .own .noKnot, .own .noMarks, .own .noPlan, .own .noPut, .own .noRule, .own .noText, .own .notOn, .own .notWider, .own .tooFar, .own .tooMany, .bi .value]).nm .isBroken (by simp))
  have gx_NoDeed := PySem.W.mg_of C.x C.g ((xtB_ok (C.c.chk 0 (f := HD.xtc) rfl) : XT K [.hasSome, .isBroken, .isPut, .isRule, .noBound, .noDeed, .noFresh, .noGrow, .noKnot, .noMarks, .noPlan, .noPut, .noRule, .noText, .notOn, .notWider, .tooFar, .tooMany] [.own .hasSome, .bi .index, .own .isBroken, .own .isPut, .own .isRule, .bi .key, .bi .lookup, .own .noBound, .own .noDeed, .own .noFresh, .own .noGrow, .own .noKnot, .own .noMarks, .own .noPlan, .own .noPut, .own .noRule, .own .noText, .own .notOn, .own .notWider, .own .tooFar, .own .tooMany, .bi .value]).nm .noDeed (by simp))
  have gx_NoPut := PySem.W.mg_of C.x C.g ((xtB_ok (C.c.chk 0 (f := HD.xtc) rfl) : XT K [.hasSome, .isBroken, .isPut, .isRule, .noBound, .noDeed, .noFresh, .noGrow, .noKnot, .noMarks, .noPlan, .noPut, .noRule, .noText, .notOn, .notWider, .tooFar, .tooMany] [.own .hasSome, .bi .index, .own .isBroken, .own .isPut, .own .isRule, .bi .key, .bi .lookup, .own .noBound, .own .noDeed, .own .noFresh, .own .noGrow, .own .noKnot, .own .noMarks, .own .noPlan, .own .noPut, .own .noRule, .own .noText, .own .notOn, .own .notWider, .own .tooFar, .own .tooMany, .bi .value]).nm .noPut (by simp))
  have gx_TooMany := PySem.W.mg_of C.x C.g ((xtB_ok (C.c.chk 0 (f := HD.xtc) rfl) : XT K [.hasSome, .isBroken, .isPut, .isRule, .noBound, .noDeed, .noFresh, .noGrow, .noKnot, .noMarks, .noPlan, .noPut, .noRule, .noText, .notOn, .notWider, .tooFar, .tooMany] [.own .hasSome, .bi .index, .own .isBroken, .own .isPut, .own .isRule, .bi .key, .bi .lookup, .own .noBound, .own .noDeed, .own .noFresh, .own .noGrow, .own .noKnot, .own .noMarks, .own .noPlan, .own .noPut, .own .noRule, .own .noText, .own .notOn, .own .notWider, .own .tooFar, .own .tooMany, .bi .value]).nm .tooMany (by simp))
  have gx_NoRule := PySem.W.mg_of C.x C.g ((xtB_ok (C.c.chk 0 (f := HD.xtc) rfl) : XT K [.hasSome, .isBroken, .isPut, .isRule, .noBound, .noDeed, .noFresh, .noGrow, .noKnot, .noMarks, .noPlan, .noPut, .noRule, .noText, .notOn, .notWider, .tooFar, .tooMany] [.own .hasSome, .bi .index, .own .isBroken, .own .isPut, .own .isRule, .bi .key, .bi .lookup, .own .noBound, .own .noDeed, .own .noFresh, .own .noGrow, .own .noKnot, .own .noMarks, .own .noPlan, .own .noPut, .own .noRule, .own .noText, .own .notOn, .own .notWider, .own .tooFar, .own .tooMany, .bi .value]).nm .noRule (by simp))
  have gx_IsRule := PySem.W.mg_of C.x C.g ((xtB_ok (C.c.chk 0 (f := HD.xtc) rfl) : XT K [.hasSome, .isBroken, .isPut, .isRule, .noBound, .noDeed, .noFresh, .noGrow, .noKnot, .noMarks, .noPlan, .noPut, .noRule, .noText, .notOn, .notWider, .tooFar, .tooMany] [.own .hasSome, .bi .index, .own .isBroken, .own .isPut, .own .isRule, .bi .key, .bi .lookup, .own .noBound, .own .noDeed, .own .noFresh, .own .noGrow, .own .noKnot, .own .noMarks, .own .noPlan, .own .noPut, .own .noRule, .own .noText, .own .notOn, .own .notWider, .own .tooFar, .own .tooMany, .bi .value]).nm .isRule (by simp))
  have gx_NotOn := PySem.W.mg_of C.x C.g ((xtB_ok (C.c.chk 0 (f := HD.xtc) rfl) : XT K [.hasSome, .isBroken, .isPut, .isRule, .noBound, .noDeed, .noFresh, .noGrow, .noKnot, .noMarks, .noPlan, .noPut, .noRule, .noText, .notOn, .notWider, .tooFar, .tooMany] [.own .hasSome, .bi .index, .own .isBroken, .own .isPut, .own .isRule, .bi .key, .bi .lookup, .own .noBound, .own .noDeed, .own .noFresh, .own .noGrow, .own .noKnot, .own .noMarks, .own .noPlan, .own .noPut, .own .noRule, .own .noText, .own .notOn, .own .notWider, .own .tooFar, .own .tooMany, .bi .value]).nm .notOn (by simp))
  have gx_IsPut := PySem.W.mg_of C.x C.g ((xtB_ok (C.c.chk 0 (f := HD.xtc) rfl) : XT K [.hasSome, .isBroken, .isPut, .isRule, .noBound, .noDeed, .noFresh, .noGrow, .noKnot, .noMarks, .noPlan, .noPut, .noRule, .noText, .notOn, .notWider, .tooFar, .tooMany] [.own .hasSome, .bi .index, .own .isBroken, .own .isPut, .own .isRule, .bi .key, .bi .lookup, .own .noBound, .own .noDeed, .own .noFresh, .own .noGrow, .own .noKnot, .own .noMarks, .own .noPlan, .own .noPut, .own .noRule, .own .noText, .own .notOn, .own .notWider, .own .tooFar, .own .tooMany, .bi .value]).nm .isPut (by simp))
  have gx_TooFar := PySem.W.mg_of C.x C.g ((xtB_ok (C.c.chk 0 (f := HD.xtc) rfl) : XT K [.hasSome, .isBroken, .isPut, .isRule, .noBound, .noDeed, .noFresh, .noGrow, .noKnot, .noMarks, .noPlan, .noPut, .noRule, .noText, .notOn, .notWider, .tooFar, .tooMany] [.own .hasSome, .bi .index, .own .isBroken, .own .isPut, .own .isRule, .bi .key, .bi .lookup, .own .noBound, .own .noDeed, .own .noFresh, .own .noGrow, .own .noKnot, .own .noMarks, .own .noPlan, .own .noPut, .own .noRule, .own .noText, .own .notOn, .own .notWider, .own .tooFar, .own .tooMany, .bi .value]).nm .tooFar (by simp))
  have gx_NotWider := PySem.W.mg_of C.x C.g ((xtB_ok (C.c.chk 0 (f := HD.xtc) rfl) : XT K [.hasSome, .isBroken, .isPut, .isRule, .noBound, .noDeed, .noFresh, .noGrow, .noKnot, .noMarks, .noPlan, .noPut, .noRule, .noText, .notOn, .notWider, .tooFar, .tooMany] [.own .hasSome, .bi .index, .own .isBroken, .own .isPut, .own .isRule, .bi .key, .bi .lookup, .own .noBound, .own .noDeed, .own .noFresh, .own .noGrow, .own .noKnot, .own .noMarks, .own .noPlan, .own .noPut, .own .noRule, .own .noText, .own .notOn, .own .notWider, .own .tooFar, .own .tooMany, .bi .value]).nm .notWider (by simp))
  have gx_NoGrow := PySem.W.mg_of C.x C.g ((xtB_ok (C.c.chk 0 (f := HD.xtc) rfl) : XT K [.hasSome, .isBroken, .isPut, .isRule, .noBound, .noDeed, .noFresh, .noGrow, .noKnot, .noMarks, .noPlan, .noPut, .noRule, .noText, .notOn, .notWider, .tooFar, .tooMany] [.own .hasSome, .bi .index, .own .isBroken, .own .isPut, .own .isRule, .bi .key, .bi .lookup, .own .noBound, .own .noDeed, .own .noFresh, .own .noGrow, .own .noKnot, .own .noMarks, .own .noPlan, .own .noPut, .own .noRule, .own .noText, .own .notOn, .own .notWider, .own .tooFar, .own .tooMany, .bi .value]).nm .noGrow (by simp))
  have gx_NoBound := PySem.W.mg_of C.x C.g ((xtB_ok (C.c.chk 0 (f := HD.xtc) rfl) : XT K [.hasSome, .isBroken, .isPut, .isRule, .noBound, .noDeed, .noFresh, .noGrow, .noKnot, .noMarks, .noPlan, .noPut, .noRule, .noText, .notOn, .notWider, .tooFar, .tooMany] [.own .hasSome, .bi .index, .own .isBroken, .own .isPut, .own .isRule, .bi .key, .bi .lookup, .own .noBound, .own .noDeed, .own .noFresh, .own .noGrow, .own .noKnot, .own .noMarks, .own .noPlan, .own .noPut, .own .noRule, .own .noText, .own .notOn, .own .notWider, .own .tooFar, .own .tooMany, .bi .value]).nm .noBound (by simp))
  have gx_NoFresh := PySem.W.mg_of C.x C.g ((xtB_ok (C.c.chk 0 (f := HD.xtc) rfl) : XT K [.hasSome, .isBroken, .isPut, .isRule, .noBound, .noDeed, .noFresh, .noGrow, .noKnot, .noMarks, .noPlan, .noPut, .noRule, .noText, .notOn, .notWider, .tooFar, .tooMany] [.own .hasSome, .bi .index, .own .isBroken, .own .isPut, .own .isRule, .bi .key, .bi .lookup, .own .noBound, .own .noDeed, .own .noFresh, .own .noGrow, .own .noKnot, .own .noMarks, .own .noPlan, .own .noPut, .own .noRule, .own .noText, .own .notOn, .own .notWider, .own .tooFar, .own .tooMany, .bi .value]).nm .noFresh (by simp))
  have gx_NoKnot := PySem.W.mg_of C.x C.g ((xtB_ok (C.c.chk 0 (f := HD.xtc) rfl) : XT K [.hasSome, .isBroken, .isPut, .isRule, .noBound, .noDeed, .noFresh, .noGrow, .noKnot, .noMarks, .noPlan, .noPut, .noRule, .noText, .notOn, .notWider, .tooFar, .tooMany] [.own .hasSome, .bi .index, .own .isBroken, .own .isPut, .own .isRule, .bi .key, .bi .lookup, .own .noBound, .own .noDeed, .own .noFresh, .own .noGrow, .own .noKnot, .own .noMarks, .own .noPlan, .own .noPut, .own .noRule, .own .noText, .own .notOn, .own .notWider, .own .tooFar, .own .tooMany, .bi .value]).nm .noKnot (by simp))
  have gx_NoText := PySem.W.mg_of C.x C.g ((xtB_ok (C.c.chk 0 (f := HD.xtc) rfl) : XT K [.hasSome, .isBroken, .isPut, .isRule, .noBound, .noDeed, .noFresh, .noGrow, .noKnot, .noMarks, .noPlan, .noPut, .noRule, .noText, .notOn, .notWider, .tooFar, .tooMany] [.own .hasSome, .bi .index, .own .isBroken, .own .isPut, .own .isRule, .bi .key, .bi .lookup, .own .noBound, .own .noDeed, .own .noFresh, .own .noGrow, .own .noKnot, .own .noMarks, .own .noPlan, .own .noPut, .own .noRule, .own .noText, .own .notOn, .own .notWider, .own .tooFar, .own .tooMany, .bi .value]).nm .noText (by simp))
  have gx_NoPlan := PySem.W.mg_of C.x C.g ((xtB_ok (C.c.chk 0 (f := HD.xtc) rfl) : XT K [.hasSome, .isBroken, .isPut, .isRule, .noBound, .noDeed, .noFresh, .noGrow, .noKnot, .noMarks, .noPlan, .noPut, .noRule, .noText, .notOn, .notWider, .tooFar, .tooMany] [.own .hasSome, .bi .index, .own .isBroken, .own .isPut, .own .isRule, .bi .key, .bi .lookup, .own .noBound, .own .noDeed, .own .noFresh, .own .noGrow, .own .noKnot, .own .noMarks, .own .noPlan, .own .noPut, .own .noRule, .own .noText, .own .notOn, .own .notWider, .own .tooFar, .own .tooMany, .bi .value]).nm .noPlan (by simp))
  have gx_NoMarks := PySem.W.mg_of C.x C.g ((xtB_ok (C.c.chk 0 (f := HD.xtc) rfl) : XT K [.hasSome, .isBroken, .isPut, .isRule, .noBound, .noDeed, .noFresh, .noGrow, .noKnot, .noMarks, .noPlan, .noPut, .noRule, .noText, .notOn, .notWider, .tooFar, .tooMany] [.own .hasSome, .bi .index, .own .isBroken, .own .isPut, .own .isRule, .bi .key, .bi .lookup, .own .noBound, .own .noDeed, .own .noFresh, .own .noGrow, .own .noKnot, .own .noMarks, .own .noPlan, .own .noPut, .own .noRule, .own .noText, .own .notOn, .own .notWider, .own .tooFar, .own .tooMany, .bi .value]).nm .noMarks (by simp))
  have g_IndexError := He.free_ok C.x C.g (C.c.b.2.fact 9 (f := .free "IndexError") rfl)
  have g_KeyError := He.free_ok C.x C.g (C.c.b.2.fact 10 (f := .free "KeyError") rfl)
  have g_ValueError := He.free_ok C.x C.g (C.c.b.2.fact 11 (f := .free "ValueError") rfl)
  refine fnOk_of (L := 0) (N := ["_law_error", "_law_some", "_law_kinds", "_law_k"]) F sc rfl (fun k hk cdv A outer s H E hr hgd tk po => ?_) k hk
  have hu1 := hu_of hr
  have hu64 := hr.units
  have hu65 := hu65_of hr
  exact (vss_cons (vs_asg (va_f (ve_lst (va_cons (vw_of (ve_isE (t := .bi .value) x0 (by simp) rfl g_isinstance (ve_var (pv 0)) (pe_bltn (x := "ValueError") (v := .ty "ValueError") rfl g_ValueError (by decide +kernel : bootBuiltins "ValueError" = some (.type "ValueError")) rfl))) (va_cons (vw_of (ve_isE (t := .bi .key) x0 (by simp) rfl g_isinstance (ve_var (pv 0)) (pe_bltn (x := "KeyError") (v := .ty "KeyError") rfl g_KeyError (by decide +kernel : bootBuiltins "KeyError" = some (.type "KeyError")) rfl))) (va_cons (vw_of (ve_isE (t := .bi .index) x0 (by simp) rfl g_isinstance (ve_var (pv 0)) (pe_bltn (x := "IndexError") (v := .ty "IndexError") rfl g_IndexError (by decide +kernel : bootBuiltins "IndexError" = some (.type "IndexError")) rfl))) va_nil))))) (vg_nm nm_set (pg_name sc.nd (i := 1) rfl (by first | exact Or.inl rfl | exact Or.inr rfl))))
    (vss_cons (vs_asg (va_f (ve_lst (va_cons (vw_of (ve_isE (t := .own .noMarks) x0 (by simp) rfl g_isinstance (ve_var (pv 0)) (pe_glob (x := "NoMarks") (v := .ref _) rfl gx_NoMarks rfl))) (va_cons (vw_of (ve_isE (t := .own .noPlan) x0 (by simp) rfl g_isinstance (ve_var (pv 0)) (pe_glob (x := "NoPlan") (v := .ref _) rfl gx_NoPlan rfl))) (va_cons (vw_of (ve_isE (t := .own .noText) x0 (by simp) rfl g_isinstance (ve_var (pv 0)) (pe_glob (x := "NoText") (v := .ref _) rfl gx_NoText rfl))) va_nil))))) (vg_nm nm_set (pg_name sc.nd (i := 2) rfl (by first | exact Or.inl rfl | exact Or.inr rfl))))
    (vss_cons (vs_asg (va_f (ve_bin op_addM os_add (ve_var (pv 2)) (ve_lst (va_cons (vw_of (ve_isE (t := .own .noKnot) x0 (by simp) rfl g_isinstance (ve_var (pv 0)) (pe_glob (x := "NoKnot") (v := .ref _) rfl gx_NoKnot rfl))) (va_cons (vw_of (ve_isE (t := .own .noFresh) x0 (by simp) rfl g_isinstance (ve_var (pv 0)) (pe_glob (x := "NoFresh") (v := .ref _) rfl gx_NoFresh rfl))) (va_cons (vw_of (ve_isE (t := .own .noBound) x0 (by simp) rfl g_isinstance (ve_var (pv 0)) (pe_glob (x := "NoBound") (v := .ref _) rfl gx_NoBound rfl))) va_nil)))))) (vg_nm nm_set (pg_name sc.nd (i := 2) rfl (by first | exact Or.inl rfl | exact Or.inr rfl))))
    (vss_cons (vs_asg (va_f (ve_bin op_addM os_add (ve_var (pv 2)) (ve_lst (va_cons (vw_of (ve_isE (t := .own .noGrow) x0 (by simp) rfl g_isinstance (ve_var (pv 0)) (pe_glob (x := "NoGrow") (v := .ref _) rfl gx_NoGrow rfl))) (va_cons (vw_of (ve_isE (t := .own .notWider) x0 (by simp) rfl g_isinstance (ve_var (pv 0)) (pe_glob (x := "NotWider") (v := .ref _) rfl gx_NotWider rfl))) (va_cons (vw_of (ve_isE (t := .own .tooFar) x0 (by simp) rfl g_isinstance (ve_var (pv 0)) (pe_glob (x := "TooFar") (v := .ref _) rfl gx_TooFar rfl))) va_nil)))))) (vg_nm nm_set (pg_name sc.nd (i := 2) rfl (by first | exact Or.inl rfl | exact Or.inr rfl))))
    (vss_cons (vs_asg (va_f (ve_bin op_addM os_add (ve_var (pv 2)) (ve_lst (va_cons (vw_of (ve_isE (t := .own .isPut) x0 (by simp) rfl g_isinstance (ve_var (pv 0)) (pe_glob (x := "IsPut") (v := .ref _) rfl gx_IsPut rfl))) (va_cons (vw_of (ve_isE (t := .own .notOn) x0 (by simp) rfl g_isinstance (ve_var (pv 0)) (pe_glob (x := "NotOn") (v := .ref _) rfl gx_NotOn rfl))) (va_cons (vw_of (ve_isE (t := .own .isRule) x0 (by simp) rfl g_isinstance (ve_var (pv 0)) (pe_glob (x := "IsRule") (v := .ref _) rfl gx_IsRule rfl))) va_nil)))))) (vg_nm nm_set (pg_name sc.nd (i := 2) rfl (by first | exact Or.inl rfl | exact Or.inr rfl))))
    (vss_cons (vs_asg (va_f (ve_bin op_addM os_add (ve_var (pv 2)) (ve_lst (va_cons (vw_of (ve_isE (t := .own .noRule) x0 (by simp) rfl g_isinstance (ve_var (pv 0)) (pe_glob (x := "NoRule") (v := .ref _) rfl gx_NoRule rfl))) (va_cons (vw_of (ve_isE (t := .own .tooMany) x0 (by simp) rfl g_isinstance (ve_var (pv 0)) (pe_glob (x := "TooMany") (v := .ref _) rfl gx_TooMany rfl))) (va_cons (vw_of (ve_isE (t := .own .noPut) x0 (by simp) rfl g_isinstance (ve_var (pv 0)) (pe_glob (x := "NoPut") (v := .ref _) rfl gx_NoPut rfl))) va_nil)))))) (vg_nm nm_set (pg_name sc.nd (i := 2) rfl (by first | exact Or.inl rfl | exact Or.inr rfl))))
    (vss_cons (vs_asg (va_f (ve_bin op_addM os_add (ve_var (pv 2)) (ve_lst (va_cons (vw_of (ve_isE (t := .own .noDeed) x0 (by simp) rfl g_isinstance (ve_var (pv 0)) (pe_glob (x := "NoDeed") (v := .ref _) rfl gx_NoDeed rfl))) (va_cons (vw_of (ve_isE (t := .own .isBroken) x0 (by simp) rfl g_isinstance (ve_var (pv 0)) (pe_glob (x := "IsBroken") (v := .ref _) rfl gx_IsBroken rfl))) (va_cons (vw_of (ve_isE (t := .own .hasSome) x0 (by simp) rfl g_isinstance (ve_var (pv 0)) (pe_glob (x := "HasSome") (v := .ref _) rfl gx_HasSome rfl))) va_nil)))))) (vg_nm nm_set (pg_name sc.nd (i := 2) rfl (by first | exact Or.inl rfl | exact Or.inr rfl))))
    (vss_one (vs_ret (ve_tup (va_cons (vw_of (ve_var (pv 1))) (va_cons (vw_of (ve_isE (t := .bi .lookup) x0 (by simp) rfl g_isinstance (ve_var (pv 0)) (pe_bltn (x := "LookupError") (v := .ty "LookupError") rfl g_LookupError (by decide +kernel : bootBuiltins "LookupError" = some (.type "LookupError")) rfl))) (va_cons (vw_of (ve_lc [("_law_k", 3)] rfl sc.nd (vi_range1 rfl g_range (va_cons (vw_of (ve_b (call_lenM) bs_len rfl g_len MV.boot_len (vt_cons (ve_var (pv 2)) vt_nil))) va_nil)) (by kernel_rfl) (fun _ _ _ _ _ => (pgB_nm (pg_name sc.nd (i := 3) rfl (by first | exact Or.inl rfl | exact Or.inr rfl)))) (fun _ _ _ _ _ => (vts_one (vb_t (ve_ix (ix_M hu1) os_ix (ve_var (pv 2)) (ve_var (pv 3)) (fun _ _ => rfl)) fun _ => rfl))) (fun _ _ _ _ _ => vw_of (ve_var (pv 3))) (by simp [ixB, ixBs]))) va_nil)))))))))))))
theorem okc__law_under (C : Cn K h mg) : DefOk (cvOf mg) (PySem.Challenge.rw_mostclauses_k99_refusals_made).prog w K mg base (1) "_law_under" ["_law_error"] 1 (F__law_under) [] := by
  obtain ⟨fd, F⟩ := C.c.b.2.def_ 3 (d := HD.d3) rfl
  exact defOk_of (ds := []) F (He.glo_ok C.x C.g (C.c.b.2.fact 3 (f := .glo "_law_under") rfl)) (F.bindsN fun _ _ _ _ _ _ us hl => match us, hl with | [_], _ => rfl) .nil rfl (fk__law_under C F)
theorem sc_law : FnScope ["_law_script", "_law_tape", "_law_turn", "_law_one", "_law_other", "_law_word", "_law_errors", "_law_k", "_law_some", "_law_fields"] ["_law_script"] (defScope (HD.top 24)) := ⟨rfl, rfl, rfl, by decide +kernel, rfl, by decide +kernel, by decide +kernel⟩
theorem fk_law (C : Cn K h mg) {dvs : List V} {kws : List (Str × V)} {f : Addr} {fd : FuncData} (F : FunD K "law" "law" (defArgs (HD.top 24)) (defBody (HD.top 24)) (defScope (HD.top 24)) dvs kws f fd) (k : Nat) (hk : 3 ≤ k) : FnG (PySem.Challenge.rw_mostclauses_k99_refusals_made).prog w K mg base (L2N.CX (PySem.Challenge.rw_mostclauses_k99_refusals_made).prog w) k f fd ["_law_script"] (spF (cvOf mg) K 1 F_law) := by
  have sc := sc_law
  have g_range := He.free_ok C.x C.g (C.c.b.2.fact 6 (f := .free "range") rfl)
  have g_repr := He.free_ok C.x C.g (C.c.b.2.fact 12 (f := .free "repr") rfl)
  have x0 : XT K [.hasSome, .isBroken, .isPut, .isRule, .noBound, .noDeed, .noFresh, .noGrow, .noKnot, .noMarks, .noPlan, .noPut, .noRule, .noText, .notOn, .notWider, .tooFar, .tooMany] [.own .hasSome, .bi .index, .own .isBroken, .own .isPut, .own .isRule, .bi .key, .bi .lookup, .own .noBound, .own .noDeed, .own .noFresh, .own .noGrow, .own .noKnot, .own .noMarks, .own .noPlan, .own .noPut, .own .noRule, .own .noText, .own .notOn, .own .notWider, .own .tooFar, .own .tooMany, .bi .value] := xtB_ok (C.c.chk 0 (f := HD.xtc) rfl)
  have c__law_under := okc__law_under (w := w) (base := base) C
  have r_HasSome := xr0_ok C.x C.g (C.c.chk 1 (f := HD.xr_HasSome) rfl)
  have r_IsBroken := xr0_ok C.x C.g (C.c.chk 2 (f := HD.xr_IsBroken) rfl)
  have r_NoDeed := xr0_ok C.x C.g (C.c.chk 6 (f := HD.xr_NoDeed) rfl)
  have r_NoPut := xr0_ok C.x C.g (C.c.chk 12 (f := HD.xr_NoPut) rfl)
  have r_TooMany := xr1_ok PySem.F.excBase_IndexError PySem.F.store_IndexError (by decide +kernel) C.x C.g (C.c.chk 18 (f := HD.xr_TooMany) rfl)
  obtain ⟨fd_TooMany, xi_TooMany, xb_TooMany⟩ := xr_TooMany (w := w) (base := base) C
  have r_NoRule := xr1_okB xb_KeyError store_KeyError (by decide +kernel) C.x C.g (C.c.chk 13 (f := HD.xr_NoRule) rfl)
  obtain ⟨fd_NoRule, xi_NoRule, xb_NoRule⟩ := xr_NoRule (w := w) (base := base) C
  have r_IsRule := xr1_okB xb_KeyError store_KeyError (by decide +kernel) C.x C.g (C.c.chk 4 (f := HD.xr_IsRule) rfl)
  obtain ⟨fd_IsRule, xi_IsRule, xb_IsRule⟩ := xr_IsRule (w := w) (base := base) C
  have r_NotOn := xr1_okB xb_KeyError store_KeyError (by decide +kernel) C.x C.g (C.c.chk 15 (f := HD.xr_NotOn) rfl)
  obtain ⟨fd_NotOn, xi_NotOn, xb_NotOn⟩ := xr_NotOn (w := w) (base := base) C
  have r_IsPut := xr1_okB xb_KeyError store_KeyError (by decide +kernel) C.x C.g (C.c.chk 3 (f := HD.xr_IsPut) rfl)
  obtain ⟨fd_IsPut, xi_IsPut, xb_IsPut⟩ := xr_IsPut (w := w) (base := base) C
  have r_TooFar := xr1_ok PySem.F.excBase_ValueError PySem.F.store_ValueError (by decide +kernel) C.x C.g (C.c.chk 17 (f := HD.xr_TooFar) rfl)
  obtain ⟨fd_TooFar, xi_TooFar, xb_TooFar⟩ := xr_TooFar (w := w) (base := base) C
  have r_NotWider := xr1_ok PySem.F.excBase_ValueError PySem.F.store_ValueError (by decide +kernel) C.x C.g (C.c.chk 16 (f := HD.xr_NotWider) rfl)
  obtain ⟨fd_NotWider, xi_NotWider, xb_NotWider⟩ := xr_NotWider (w := w) (base := base) C
  have r_NoGrow := xr0_ok C.x C.g (C.c.chk 8 (f := HD.xr_NoGrow) rfl)
  have r_NoBound := xr1_ok PySem.F.excBase_ValueError PySem.F.store_ValueError (by decide +kernel) C.x C.g (C.c.chk 5 (f := HD.xr_NoBound) rfl)
  obtain ⟨fd_NoBound, xi_NoBound, xb_NoBound⟩ := xr_NoBound (w := w) (base := base) C
  have r_NoFresh := xr1_ok PySem.F.excBase_ValueError PySem.F.store_ValueError (by decide +kernel) C.x C.g (C.c.chk 7 (f := HD.xr_NoFresh) rfl)
  obtain ⟨fd_NoFresh, xi_NoFresh, xb_NoFresh⟩ := xr_NoFresh (w := w) (base := base) C
  have r_NoKnot := xr1_ok PySem.F.excBase_ValueError PySem.F.store_ValueError (by decide +kernel) C.x C.g (C.c.chk 9 (f := HD.xr_NoKnot) rfl)
  obtain ⟨fd_NoKnot, xi_NoKnot, xb_NoKnot⟩ := xr_NoKnot (w := w) (base := base) C
  have r_NoText := xr0_ok C.x C.g (C.c.chk 14 (f := HD.xr_NoText) rfl)
  have r_NoPlan := xr0_ok C.x C.g (C.c.chk 11 (f := HD.xr_NoPlan) rfl)
  have r_NoMarks := xr0_ok C.x C.g (C.c.chk 10 (f := HD.xr_NoMarks) rfl)
  have c__law_pick := okc__law_pick (w := w) (base := base) C
  have c__law_draw := okc__law_draw (w := w) (base := base) C
  have c__law_begun := okc__law_begun (w := w) (base := base) C
  refine fnOk_of (L := 2) (N := ["_law_script", "_law_tape", "_law_turn", "_law_one", "_law_other", "_law_word", "_law_errors", "_law_k", "_law_some", "_law_fields"]) F sc rfl (fun k hk cdv A outer s H E hr hgd tk po => ?_) k hk
  have hu1 := hu_of hr
  have hu64 := hr.units
  have hu65 := hu65_of hr
  exact (vss_cons (vs_asg (va_o (ve_own c__law_begun (k := k) (by omega) hr hgd rfl tk (vr_cons (va_l (ve_var (pv 0))) vr_nil) (len_cons len_nil))) (vg_nm nm_obj (pg_name sc.nd (i := 1) rfl (by first | exact Or.inl rfl | exact Or.inr rfl))))
    (vss_cons (vs_for [] po rfl (vi_range1 rfl g_range (va_cons (vw_of (ve_c pe_int)) va_nil)) (vg_nm nm_set (pg_name sc.nd (i := 2) rfl (by first | exact Or.inl rfl | exact Or.inr rfl))) (vss_cons (vs_par2 rfl sc.nd (i := 3) (j := 4) rfl rfl (by decide) rfl rfl (vd_cons (va_f (ve_bin op_addM os_add (ve_c pe_int) (ve_own c__law_draw (k := k) (by omega) hr hgd rfl tk (vr_cons (va_l (ve_var (pv 1))) (vr_cons (va_f (ve_c pe_int)) vr_nil)) (len_cons (len_cons len_nil))))) (vd_cons (va_f (ve_own c__law_pick (k := k) (by omega) hr hgd rfl tk (vr_cons (va_l (ve_var (pv 1))) (vr_cons (va_f (ve_lst (va_cons (vw_of (ve_c pe_non)) (va_cons (vw_of (ve_c pe_int)) (va_cons (vw_of (ve_neg (ve_c pe_int))) (va_cons (vw_of (ve_bin op_pow os_pow (ve_c pe_int) (ve_c pe_int))) (va_cons (vw_of (ve_bin op_addM os_add (ve_c pe_int) (ve_own c__law_draw (k := k) (by omega) hr hgd rfl tk (vr_cons (va_l (ve_var (pv 1))) (vr_cons (va_f (ve_bin op_pow os_pow (ve_c pe_int) (ve_c pe_int))) vr_nil)) (len_cons (len_cons len_nil))))) va_nil))))))) vr_nil)) (len_cons (len_cons len_nil)))) vd_nil)) nm_set nm_set rfl)
    (vss_cons (vs_asg (va_f (ve_own c__law_pick (k := k) (by omega) hr hgd rfl tk (vr_cons (va_l (ve_var (pv 1))) (vr_cons (va_f (ve_lst (va_cons (vw_of (ve_c pe_str)) (va_cons (vw_of (ve_c pe_str)) (va_cons (vw_of (ve_c pe_str)) (va_cons (vw_of (ve_c pe_str)) va_nil)))))) vr_nil)) (len_cons (len_cons len_nil)))) (vg_nm nm_set (pg_name sc.nd (i := 5) rfl (by first | exact Or.inl rfl | exact Or.inr rfl))))
    (vss_cons (vs_asg (va_f (ve_lst (va_cons (vw_of (ve_mk0 PySem.F.excBase_ValueError r_NoMarks.q r_NoMarks.g r_NoMarks.k (raises_own r_NoMarks.su r_NoMarks.ty) rfl)) (va_cons (vw_of (ve_mk0 PySem.F.excBase_ValueError r_NoPlan.q r_NoPlan.g r_NoPlan.k (raises_own r_NoPlan.su r_NoPlan.ty) rfl)) (va_cons (vw_of (ve_mk0 PySem.F.excBase_ValueError r_NoText.q r_NoText.g r_NoText.k (raises_own r_NoText.su r_NoText.ty) rfl)) (va_cons (vw_of (ve_mk1 rfl r_NoKnot.t r_NoKnot.i r_NoKnot.ti xi_NoKnot (hr.mono (by omega)) xb_NoKnot rfl r_NoKnot.g (va_cons (vw_of (ve_var (pv 3))) va_nil))) (va_cons (vw_of (ve_mk1 rfl r_NoFresh.t r_NoFresh.i r_NoFresh.ti xi_NoFresh (hr.mono (by omega)) xb_NoFresh rfl r_NoFresh.g (va_cons (vw_of (ve_var (pv 3))) va_nil))) (va_cons (vw_of (ve_mk2 rfl r_NoBound.t r_NoBound.i r_NoBound.ti xi_NoBound (hr.mono (by omega)) xb_NoBound rfl r_NoBound.g (va_cons (vw_of (ve_var (pv 3))) (va_cons (vw_of (ve_bin op_sub os_sub (ve_var (pv 3)) (ve_c pe_int))) va_nil)))) (va_cons (vw_of (ve_mk0 PySem.F.excBase_ValueError r_NoGrow.q r_NoGrow.g r_NoGrow.k (raises_own r_NoGrow.su r_NoGrow.ty) rfl)) va_nil))))))))) (vg_nm nm_set (pg_name sc.nd (i := 6) rfl (by first | exact Or.inl rfl | exact Or.inr rfl))))
    (vss_cons (vs_asg (va_f (ve_bin op_addM os_add (ve_var (pv 6)) (ve_lst (va_cons (vw_of (ve_mk1 rfl r_NotWider.t r_NotWider.i r_NotWider.ti xi_NotWider (hr.mono (by omega)) xb_NotWider rfl r_NotWider.g (va_cons (vw_of (ve_var (pv 3))) va_nil))) (va_cons (vw_of (ve_mk1 rfl r_TooFar.t r_TooFar.i r_TooFar.ti xi_TooFar (hr.mono (by omega)) xb_TooFar rfl r_TooFar.g (va_cons (vw_of (ve_var (pv 3))) va_nil))) (va_cons (vw_of (ve_mk1 rfl r_IsPut.t r_IsPut.i r_IsPut.ti xi_IsPut (hr.mono (by omega)) xb_IsPut rfl r_IsPut.g (va_cons (vw_of (ve_var (pv 3))) va_nil))) (va_cons (vw_of (ve_mk1 rfl r_NotOn.t r_NotOn.i r_NotOn.ti xi_NotOn (hr.mono (by omega)) xb_NotOn rfl r_NotOn.g (va_cons (vw_of (ve_var (pv 4))) va_nil))) (va_cons (vw_of (ve_mk1 rfl r_IsRule.t r_IsRule.i r_IsRule.ti xi_IsRule (hr.mono (by omega)) xb_IsRule rfl r_IsRule.g (va_cons (vw_of (ve_var (pv 5))) va_nil))) (va_cons (vw_of (ve_mk1 rfl r_NoRule.t r_NoRule.i r_NoRule.ti xi_NoRule (hr.mono (by omega)) xb_NoRule rfl r_NoRule.g (va_cons (vw_of (ve_var (pv 5))) va_nil))) va_nil))))))))) (vg_nm nm_set (pg_name sc.nd (i := 6) rfl (by first | exact Or.inl rfl | exact Or.inr rfl))))
    (vss_cons (vs_asg (va_f (ve_bin op_addM os_add (ve_var (pv 6)) (ve_lst (va_cons (vw_of (ve_mk1 rfl r_TooMany.t r_TooMany.i r_TooMany.ti xi_TooMany (hr.mono (by omega)) xb_TooMany rfl r_TooMany.g (va_cons (vw_of (ve_var (pv 3))) va_nil))) (va_cons (vw_of (ve_mk0 PySem.F.excBase_IndexError r_NoPut.q r_NoPut.g r_NoPut.k (raises_own r_NoPut.su r_NoPut.ty) rfl)) (va_cons (vw_of (ve_mk0 PySem.F.excBase_IndexError r_NoDeed.q r_NoDeed.g r_NoDeed.k (raises_own r_NoDeed.su r_NoDeed.ty) rfl)) (va_cons (vw_of (ve_mk0 PySem.F.excBase_LookupError r_IsBroken.q r_IsBroken.g r_IsBroken.k (raises_own r_IsBroken.su r_IsBroken.ty) rfl)) (va_cons (vw_of (ve_mk0 PySem.F.excBase_LookupError r_HasSome.q r_HasSome.g r_HasSome.k (raises_own r_HasSome.su r_HasSome.ty) rfl)) va_nil)))))))) (vg_nm nm_set (pg_name sc.nd (i := 6) rfl (by first | exact Or.inl rfl | exact Or.inr rfl))))
    (vss_cons (vs_for [] po rfl (vi_range1 rfl g_range (va_cons (vw_of (ve_c pe_int)) va_nil)) (vg_nm nm_set (pg_name sc.nd (i := 7) rfl (by first | exact Or.inl rfl | exact Or.inr rfl))) (vss_cons (vs_asg (va_f (ve_lst (va_cons (vw_of (ve_cmp (op_lt) os_ord (ve_var (pv 7)) (ve_c pe_int) rfl)) (va_cons (vw_of (ve_chain op_le op_lt (ve_c pe_int) (ve_var (pv 7)) (ve_c pe_int))) (va_cons (vw_of (ve_chain op_le op_lt (ve_c pe_int) (ve_var (pv 7)) (ve_c pe_int))) va_nil))))) (vg_nm nm_set (pg_name sc.nd (i := 8) rfl (by first | exact Or.inl rfl | exact Or.inr rfl))))
    (vss_one (vs_if (vb_cmp (op_neN hu64) os_ne (ve_own c__law_under (k := k) (by omega) hr hgd rfl tk (vr_cons (va_f (ve_ix (ix_M hu1) os_ix (ve_var (pv 6)) (ve_var (pv 7)) (fun _ _ => rfl))) vr_nil) (len_cons len_nil)) (ve_tup (va_cons (vw_of (ve_var (pv 8))) (va_cons (vw_of (ve_cmp (op_gt) os_ord (ve_var (pv 7)) (ve_c pe_int) rfl)) (va_cons (vw_of (ve_lst (va_cons (vw_of (ve_var (pv 7))) va_nil))) va_nil)))) rfl) (vss_one (vs_ret (ve_c pe_bl))) vss_nil))))
    (vss_cons (vs_asg (va_f (ve_lst (va_cons (vw_of (ve_xfE (ts := [.own .hasSome, .bi .index, .own .isBroken, .own .isPut, .own .isRule, .bi .key, .bi .lookup, .own .noBound, .own .noDeed, .own .noFresh, .own .noGrow, .own .noKnot, .own .noMarks, .own .noPlan, .own .noPut, .own .noRule, .own .noText, .own .notOn, .own .notWider, .own .tooFar, .own .tooMany, .bi .value]) (j := 0) x0 (ve_ix (ix_M hu1) os_ix (ve_var (pv 6)) (ve_c pe_int) (fun _ _ => rfl)))) (va_cons (vw_of (ve_xfE (ts := [.own .hasSome, .bi .index, .own .isBroken, .own .isPut, .own .isRule, .bi .key, .bi .lookup, .own .noBound, .own .noDeed, .own .noFresh, .own .noGrow, .own .noKnot, .own .noMarks, .own .noPlan, .own .noPut, .own .noRule, .own .noText, .own .notOn, .own .notWider, .own .tooFar, .own .tooMany, .bi .value]) (j := 0) x0 (ve_ix (ix_M hu1) os_ix (ve_var (pv 6)) (ve_c pe_int) (fun _ _ => rfl)))) (va_cons (vw_of (ve_xfE (ts := [.own .hasSome, .bi .index, .own .isBroken, .own .isPut, .own .isRule, .bi .key, .bi .lookup, .own .noBound, .own .noDeed, .own .noFresh, .own .noGrow, .own .noKnot, .own .noMarks, .own .noPlan, .own .noPut, .own .noRule, .own .noText, .own .notOn, .own .notWider, .own .tooFar, .own .tooMany, .bi .value]) (j := 1) x0 (ve_ix (ix_M hu1) os_ix (ve_var (pv 6)) (ve_c pe_int) (fun _ _ => rfl)))) (va_cons (vw_of (ve_xfE (ts := [.own .hasSome, .bi .index, .own .isBroken, .own .isPut, .own .isRule, .bi .key, .bi .lookup, .own .noBound, .own .noDeed, .own .noFresh, .own .noGrow, .own .noKnot, .own .noMarks, .own .noPlan, .own .noPut, .own .noRule, .own .noText, .own .notOn, .own .notWider, .own .tooFar, .own .tooMany, .bi .value]) (j := 0) x0 (ve_ix (ix_M hu1) os_ix (ve_var (pv 6)) (ve_c pe_int) (fun _ _ => rfl)))) (va_cons (vw_of (ve_xfE (ts := [.own .hasSome, .bi .index, .own .isBroken, .own .isPut, .own .isRule, .bi .key, .bi .lookup, .own .noBound, .own .noDeed, .own .noFresh, .own .noGrow, .own .noKnot, .own .noMarks, .own .noPlan, .own .noPut, .own .noRule, .own .noText, .own .notOn, .own .notWider, .own .tooFar, .own .tooMany, .bi .value]) (j := 0) x0 (ve_ix (ix_M hu1) os_ix (ve_var (pv 6)) (ve_c pe_int) (fun _ _ => rfl)))) (va_cons (vw_of (ve_xfE (ts := [.own .hasSome, .bi .index, .own .isBroken, .own .isPut, .own .isRule, .bi .key, .bi .lookup, .own .noBound, .own .noDeed, .own .noFresh, .own .noGrow, .own .noKnot, .own .noMarks, .own .noPlan, .own .noPut, .own .noRule, .own .noText, .own .notOn, .own .notWider, .own .tooFar, .own .tooMany, .bi .value]) (j := 0) x0 (ve_ix (ix_M hu1) os_ix (ve_var (pv 6)) (ve_c pe_int) (fun _ _ => rfl)))) va_nil)))))))) (vg_nm nm_set (pg_name sc.nd (i := 9) rfl (by first | exact Or.inl rfl | exact Or.inr rfl))))
    (vss_cons (vs_asg (va_f (ve_bin op_addM os_add (ve_var (pv 9)) (ve_lst (va_cons (vw_of (ve_xfE (ts := [.own .hasSome, .bi .index, .own .isBroken, .own .isPut, .own .isRule, .bi .key, .bi .lookup, .own .noBound, .own .noDeed, .own .noFresh, .own .noGrow, .own .noKnot, .own .noMarks, .own .noPlan, .own .noPut, .own .noRule, .own .noText, .own .notOn, .own .notWider, .own .tooFar, .own .tooMany, .bi .value]) (j := 0) x0 (ve_ix (ix_M hu1) os_ix (ve_var (pv 6)) (ve_c pe_int) (fun _ _ => rfl)))) (va_cons (vw_of (ve_xfE (ts := [.own .hasSome, .bi .index, .own .isBroken, .own .isPut, .own .isRule, .bi .key, .bi .lookup, .own .noBound, .own .noDeed, .own .noFresh, .own .noGrow, .own .noKnot, .own .noMarks, .own .noPlan, .own .noPut, .own .noRule, .own .noText, .own .notOn, .own .notWider, .own .tooFar, .own .tooMany, .bi .value]) (j := 0) x0 (ve_ix (ix_M hu1) os_ix (ve_var (pv 6)) (ve_c pe_int) (fun _ _ => rfl)))) (va_cons (vw_of (ve_xfE (ts := [.own .hasSome, .bi .index, .own .isBroken, .own .isPut, .own .isRule, .bi .key, .bi .lookup, .own .noBound, .own .noDeed, .own .noFresh, .own .noGrow, .own .noKnot, .own .noMarks, .own .noPlan, .own .noPut, .own .noRule, .own .noText, .own .notOn, .own .notWider, .own .tooFar, .own .tooMany, .bi .value]) (j := 0) x0 (ve_ix (ix_M hu1) os_ix (ve_var (pv 6)) (ve_c pe_int) (fun _ _ => rfl)))) (va_cons (vw_of (ve_xfE (ts := [.own .hasSome, .bi .index, .own .isBroken, .own .isPut, .own .isRule, .bi .key, .bi .lookup, .own .noBound, .own .noDeed, .own .noFresh, .own .noGrow, .own .noKnot, .own .noMarks, .own .noPlan, .own .noPut, .own .noRule, .own .noText, .own .notOn, .own .notWider, .own .tooFar, .own .tooMany, .bi .value]) (j := 0) x0 (ve_ix (ix_M hu1) os_ix (ve_var (pv 6)) (ve_c pe_int) (fun _ _ => rfl)))) (va_cons (vw_of (ve_xfE (ts := [.own .hasSome, .bi .index, .own .isBroken, .own .isPut, .own .isRule, .bi .key, .bi .lookup, .own .noBound, .own .noDeed, .own .noFresh, .own .noGrow, .own .noKnot, .own .noMarks, .own .noPlan, .own .noPut, .own .noRule, .own .noText, .own .notOn, .own .notWider, .own .tooFar, .own .tooMany, .bi .value]) (j := 0) x0 (ve_ix (ix_M hu1) os_ix (ve_var (pv 6)) (ve_c pe_int) (fun _ _ => rfl)))) va_nil)))))))) (vg_nm nm_set (pg_name sc.nd (i := 9) rfl (by first | exact Or.inl rfl | exact Or.inr rfl))))
    (vss_one (vs_if (vb_cmp (op_neN hu64) os_ne (ve_b (call_reprA hgd hu65) bs_reprA rfl g_repr MV.boot_repr (vt_cons (ve_var (pv 9)) vt_nil)) (ve_b (call_reprA hgd hu65) bs_reprA rfl g_repr MV.boot_repr (vt_cons (ve_lst (va_cons (vw_of (ve_var (pv 3))) (va_cons (vw_of (ve_var (pv 3))) (va_cons (vw_of (ve_var (pv 3))) (va_cons (vw_of (ve_bin op_sub os_sub (ve_var (pv 3)) (ve_c pe_int))) (va_cons (vw_of (ve_var (pv 3))) (va_cons (vw_of (ve_var (pv 3))) (va_cons (vw_of (ve_var (pv 3))) (va_cons (vw_of (ve_var (pv 4))) (va_cons (vw_of (ve_var (pv 5))) (va_cons (vw_of (ve_var (pv 5))) (va_cons (vw_of (ve_var (pv 3))) va_nil)))))))))))) vt_nil)) rfl) (vss_one (vs_ret (ve_c pe_bl))) vss_nil)))))))))))
    (vss_one (vs_ret (ve_c pe_bl)))))
end
end LW


section
open PySem PySem.W PySem.Calls PyProof.Rows
theorem MV.law_end (hF : ∀ ns : List Int, ns.length ≤ 63 → (∀ z ∈ ns, Builtin.Int.intBits z ≤ 1048576) → ∃ st, LW.F_law [.val (.rol (ns.map MV.W.int))] [] = .ok (.w (.bl true)) st) : PySem.Challenge.rw_mostclauses_k99_refusals_made.Holds := by
  w_on; o_law
  refine HandSHeadRun.head_any (r := OpenLaw.row PySem.Challenge.rw_mostclauses_k99_refusals_made) (q := view (OpenLaw.row PySem.Challenge.rw_mostclauses_k99_refusals_made).prog [24]) (H := HD.hk) (ob := HD.ob) (M := 9000) (loose := HD.names) (d := HandSHeadRun.topDef (OpenLaw.row PySem.Challenge.rw_mostclauses_k99_refusals_made).prog 24) (kwd := []) HD.ob_eq
    (by kernel_rfl) (fun s => by kernel_rfl) HD.run (by kernel_rfl) (by kernel_rfl) (by kernel_rfl) (by rfl) (by first | assumption | decide +kernel) (by decide +kernel) ⟨rfl, rfl, rfl, rfl, rfl, by decide +kernel⟩ ?hw ?hc
  case hw => w_witness2
  case hc =>
    refine MV.walk_G (l := PySem.Challenge.rw_mostclauses_k99_refusals_made) (n := 63) (k := 3) (x := "_law_script") (CX := fun w => L2N.CX (PySem.Challenge.rw_mostclauses_k99_refusals_made).prog w) rfl (by decide) (by kernel_rfl) ⟨rfl, by decide, by decide⟩ ?F (fun _ _ _ _ _ ⟨_, _, _, _, _, _, _, _, _, _, _, _, h⟩ => h)
    intro w mg fa h Y G hmg0
    obtain ⟨K, KX, c⟩ := Y
    have hmg : mg ("law" : PySem.Str) = some (.ref fa) := by
      have e : (HandSHeadRun.topDef (OpenLaw.row PySem.Challenge.rw_mostclauses_k99_refusals_made).prog 24).name = ("law" : PySem.Str) := by kernel_rfl
      rw [← e]
      exact hmg0
    obtain ⟨fd, F⟩ := c.b.2.def_ 4 (d := HD.d4) rfl
    have e := hmg.symm.trans (He.glo_ok KX G (c.b.2.fact 4 (f := .glo "law") rfl))
    cases e
    have b := L2.FunD.bindsA (ps := ["_law_script"]) F fun _ _ _ _ _ _ us hl => match us, hl with | [_], _ => rfl
    refine ⟨K, fd, MV.spF (MV.cvOf mg) K 1 LW.F_law, KX, fun s v => b s [v] rfl, fun H a ns hl hb hS => MV.sp_law (hF ns hl hb) H a hS, fun base h1 h2 => ?_⟩
    exact LW.fk_law (w := w) (base := base) ⟨KX, G, c⟩ F 3 (by omega)
end
namespace MV
open PySem PySem.Spec PyProof.Rows L2

@[simp] def fget : List (Fd × W) → Fd → Option W
  | [], _ => none
  | (k, w) :: r, f => if k = f then some w else fget r f
@[simp] def fput : List (Fd × W) → Fd → W → List (Fd × W)
  | [], f, w => [(f, w)]
  | (k, u) :: r, f, w => if k = f then (k, w) :: r else (k, u) :: fput r f w
@[simp] theorem R.bind_ex {α β : Type} (c : Ec) (fs : List (Str × W)) (st : FS) (f : α → FS → R β) : (R.ex c fs st : R α).bind f = .ex c fs st := rfl
@[simp] theorem R.bind_stuck {α β : Type} (f : α → FS → R β) : (R.stuck : R α).bind f = .stuck := rfl


theorem Lw.refl (g : G) (H : Hp) : Lw g H g H := ⟨Nat.le_refl _, fun _ _ => rfl, fun _ _ h e => ⟨h, e⟩, fun _ _ _ e => ⟨rfl, e⟩, fun _ h => h⟩
theorem Lw.trans {g g1 g2 : G} {H H1 H2 : Hp} (a : Lw g H g1 H1) (b : Lw g1 H1 g2 H2) : Lw g H g2 H2 :=
  ⟨Nat.le_trans a.n b.n, fun j h => (b.m j (Nat.lt_of_lt_of_le h a.n)).trans (a.m j h), fun x o h e => b.fz x o (a.fz x o h e).1 (a.fz x o h e).2,
    fun x o h e => by
      obtain ⟨h1, e1⟩ := a.no x o h e
      obtain ⟨h2, e2⟩ := b.no x o (h1.trans h) e1
      exact ⟨h2.trans h1, e2⟩, fun x h => a.dom x (b.dom x h)⟩
theorem Sim.trans {g g1 g2 : G} {H H1 H2 : Hp} (a : Sim g H g1 H1) (b : Sim g1 H1 g2 H2) : Sim g H g2 H2 :=
  ⟨b.n.trans a.n, b.m.trans a.m, fun x o e h => by
    obtain ⟨h1, e1⟩ := a.at_ x o e h
    obtain ⟨h2, e2⟩ := b.at_ x o e1 (by rw [h1]; exact h)
    exact ⟨h2.trans h1, e2⟩⟩
section
variable {K : PySem.W.Frag} {g g' : G} {H H' : Hp}
theorem Lw.fzk (e : Lw g H g' H') : Fzk g H g' H' := ⟨e.m, e.n, e.fz⟩
end
end MV


namespace MV
open PySem PySem.Spec PyProof.Rows L2





theorem OpS.or {K : PySem.W.Frag} {r r' : R2} {op : T → T → FS → R T} (h : OpS K r op) : OpS K (fun x y H Q => r x y H Q ∨ r' x y H Q) op := fun g H st σ Wx Q x y tx ty a b c d => Or.inl (h g H st σ Wx Q x y tx ty a b c d)
end MV

namespace MV
open PySem PySem.Spec PyProof.Rows L2

@[simp] def oShr (tx ty : T) (st : FS) : R T := match tx, ty with
  | .w (.int i), .w (.int j) => if 0 ≤ j then .ok (.w (.int (i / 2 ^ j.toNat))) st else .stuck
  | _, _ => .stuck
@[simp] def oAnd (tx ty : T) (st : FS) : R T := match tx, ty with
  | .w (.int i), .w (.int j) => .ok (.w (.int (Builtin.bitAnd i j))) st
  | _, _ => .stuck
@[simp] def cIsN (neg : Bool) (tx ty : T) (st : FS) : R T := match tx, ty with
  | .w .non, .w .non => .ok (.w (.bl (!neg))) st
  | _, .w .non => .ok (.w (.bl neg)) st
  | _, _ => .stuck
@[simp] def isLoc : T → Bool
  | .loc _ => true
  | _ => false
@[simp] def cIsN' (neg : Bool) (tx ty : T) (st : FS) : R T := if isLoc tx then .stuck else cIsN neg tx ty st
end MV


namespace MV
open PySem PySem.Spec PyProof.Rows L2


@[simp] def bNot (d : FS → R Bool) (st : FS) : R Bool := (d st).bind fun b st1 => .ok (!b) st1
@[simp] def bOr (d e : FS → R Bool) (st : FS) : R Bool := (d st).bind fun b st1 => if b = true then .ok true st1 else e st1
@[simp] def eAnd (d e : FS → R T) (st : FS) : R T := (d st).bind fun t st1 => match truT t st1 with
  | some b => if b = true then e st1 else .ok t st1
  | none => .stuck
@[simp] def eNot (d : FS → R T) (st : FS) : R T := (d st).bind fun t st1 => match truT t st1 with
  | some b => .ok (.w (.bl (!b))) st1
  | none => .stuck
@[simp] def eIf (c : FS → R Bool) (d e : FS → R T) (st : FS) : R T := (c st).bind fun b st1 => if b = true then d st1 else e st1

end MV


namespace MV
open PySem PySem.Spec PyProof.Rows L2

section
variable {K : PySem.W.Frag} {Wx : MX} {g g0 g1 : G} {H H0 H1 : Hp} {σ : L2.St} {st : FS}
theorem ObsR.set {s : List Ob} {p : Addr} {t : Tag} (h : ObsR K g H s) (hp : g.tg p = .tmp) : ObsR K (g.set p t) H s := h.sim (Sim.tag hp)
end
end MV

namespace MV
open PySem PySem.Spec PyProof.Rows L2

section
variable {X : Cx} {Wx : MX} {s : Stmt} {ss : List Stmt} {e : Expr} {d : FS → R T} {d1 d2 : FS → R Fl} {c : Expr} {dc : FS → R Bool} {pos : Pos}
@[simp] def sBrk (st : FS) : R Fl := .ok .brk st
@[simp] def sCnt (st : FS) : R Fl := .ok .cnt st
@[simp] def sExpr (d : FS → R T) (st : FS) : R Fl := (d st).bind fun _ st1 => .ok .nx st1
end

end MV

namespace MV
open PySem PySem.Spec PyProof.Rows L2




@[simp] def sUnp (d : FS → R T) (n : Nat) (dgs : List (Ar → FS → R Unit)) (st : FS) : R Fl := (d st).bind fun t st1 => match t with
  | .w (.tup ws) => if ws.length = n then (gAll dgs (ws.map .w) st1).bind fun _ st2 => .ok .nx st2 else .stuck
  | _ => .stuck
end MV

namespace MV
open PySem PySem.Spec PyProof.Rows L2


@[simp] def eMl (m : Mt) (d : FS → R T) (da : FS → R (List W)) (st : FS) : R T := (d st).bind fun t st1 => match ndOf st1 t with
  | some (.lst _) => (da st1).bind fun ws st2 => (match ndOf st2 t with
    | none => .stuck
    | some n => (match m n ws with
      | none => .stuck
      | some (w, n') => .ok (.w w) (setNd st2 t n')))
  | _ => .stuck
section
variable {K : PySem.W.Frag} {g : G} {H : Hp}
theorem RWs.dropLast : ∀ {ws : List W} {vs : List V}, RWs K g H ws vs → RWs K g H ws.dropLast vs.dropLast
  | _, _, .nil => .nil
  | _, _, .cons h .nil => .nil
  | _, _, .cons h (.cons h2 hs) => .cons h (RWs.dropLast (.cons h2 hs))
theorem RWs.reverse : ∀ {ws : List W} {vs : List V}, RWs K g H ws vs → RWs K g H ws.reverse vs.reverse
  | _, _, .nil => .nil
  | _, _, .cons h hs => by
    rw [List.reverse_cons, List.reverse_cons]
    exact (RWs.reverse hs).append (.cons h .nil)
end

@[simp] def sAug (i : Nat) (op : T → T → FS → R T) (d : FS → R T) (st : FS) : R Fl := (eVar i st).bind fun t0 st0 => (d st0).bind fun t1 st1 => (op t0 t1 st1).bind fun t st2 => (frz0 t st2).bind fun w st3 => if i < st3.r.length then .ok .nx (st3.setr i (.val w)) else .stuck
@[simp] def sAugL (i : Nat) (d : FS → R T) (st : FS) : R Fl := match st.r[i]? with
  | some (.own (.lst _)) => (d st).bind fun t1 st1 => (match st1.r[i]?, lstOf st1 t1 with
    | some (.own (.lst xs)), some ys => if xs.length + ys.length ≤ sizeLine then .ok .nx (st1.setr i (.own (.lst (xs ++ ys)))) else .stuck
    | _, _ => .stuck)
  | _ => .stuck
end MV


namespace MV
open PySem PySem.Spec PyProof.Rows L2

@[simp] def iW (w : W) (st : FS) : R Wlk := match w with
  | .lst xs => .ok ⟨xs, none⟩ st
  | .tup xs => .ok ⟨xs, none⟩ st
  | .rol xs => .ok ⟨xs, none⟩ st
  | .tud xs => .ok ⟨xs, none⟩ st
  | .ref n => (match st.s[n]? with
    | some (.con (.lst xs)) => .ok ⟨xs, some (n, xs)⟩ st
    | _ => .stuck)
  | _ => .stuck
@[simp] def borL (st : FS) : T → Option (List W)
  | .loc i => (match st.r[i]? with
    | some (.bor (.lst xs)) => some xs
    | _ => none)
  | _ => none
@[simp] def iSq (d : FS → R T) (st : FS) : R Wlk := (d st).bind fun t st1 => match borL st1 t with
  | some xs => .ok ⟨xs, none⟩ st1
  | none => (frz t st1).bind iW

@[simp] def iR2 (das : FS → R (List W)) (st : FS) : R Wlk := (das st).bind fun ws st1 => match ws with
  | [.int i, .int j] => if small62 i ∧ small62 j then .ok ⟨intsW i (j - i).toNat, none⟩ st1 else .stuck
  | _ => .stuck

@[simp] def lstW : W → Option (List W)
  | .lst xs => some xs
  | .rol xs => some xs
  | _ => none
def enumW (i : Nat) : List W → List W
  | [] => []
  | x :: xs => .tup [.int (i : Int), x] :: enumW (i + 1) xs
@[simp] def iEn (das : FS → R (List W)) (st : FS) : R Wlk := (das st).bind fun ws st1 => match ws with
  | [w] => (match lstW w with
    | some xs => .ok ⟨enumW 0 xs, none⟩ st1
    | none => .stuck)
  | _ => .stuck
def zipW : List W → List W → List W
  | x :: xs, y :: ys => .tup [x, y] :: zipW xs ys
  | _, _ => []
@[simp] def iSt (d : FS → R T) (st : FS) : R Wlk := (d st).bind fun t st1 => match t with
  | .w (.str x) => .ok ⟨x.cps.toList.map fun c => W.str ⟨#[c]⟩, none⟩ st1
  | _ => .stuck
end MV

namespace MV
open PySem PySem.Spec PyProof.Rows L2

section
variable {K : PySem.W.Frag} {Wx : MX} {g g0 g1 g2 : G} {H H0 H1 H2 : Hp} {σ : L2.St} {st : FS}
theorem RTs.le (e : Le g H g1 H1) {ts : List T} {vs : List V} (h : RTs K g H σ ts vs) : RTs K g1 H1 σ ts vs := L2.Paired.mapP h fun _ _ q => RT.le e q
variable {X : Cx} {x : Str} {p pos : Pos} {id T : String} {e : Expr} {es : List Expr} {d : FS → R MV.T} {ds : FS → R (List MV.T)} {r : List V → Hp → VK → Prop} {f : List MV.T → FS → R MV.T}
theorem BsS.or {r' : List V → Hp → VK → Prop} (h : BsS K r f) : BsS K (fun xs H Q => r xs H Q ∨ r' xs H Q) f := fun g H st σ Wx Q vs ts a b c => Or.inl (h g H st σ Wx Q vs ts a b c)
end

@[simp] def tyT (st : FS) : T → Option String
  | .w .non => some "NoneType"
  | .w (.bl _) => some "bool"
  | .w (.int _) => some "int"
  | .w (.str _) => some "str"
  | .w (.tup _) => some "tuple"
  | .w (.lst _) => some "list"
  | .w (.rol _) => some "list"
  | .w (.dic _ _) => some "dict"
  | t => if (lstOf st t).isSome then some "list" else if (dicOf st t).isSome then some "dict" else none
def tys : List String := ["NoneType", "bool", "int", "str", "tuple", "list", "dict"]
def isiB (a b : String) : Bool := a == b || (a == "bool" && b == "int")
@[simp] def bIsi (ts : List T) (st : FS) : R T := match ts with
  | [t, .w (.ty n)] => (match tyT st t with
    | some m => if n ∈ tys then .ok (.w (.bl (isiB m n))) st else .stuck
    | none => .stuck)
  | _ => .stuck

@[simp] def bMax2 (ts : List T) (st : FS) : R T := match ts with
  | [.w (.int i), .w (.int j)] => .ok (.w (.int (if j > i then j else i))) st
  | _ => .stuck
@[simp] def bMin2 (ts : List T) (st : FS) : R T := match ts with
  | [.w (.int i), .w (.int j)] => .ok (.w (.int (if j < i then j else i))) st
  | _ => .stuck
@[simp] def bStr (ts : List T) (st : FS) : R T := match ts with
  | [.w (.int i)] => if i.natAbs.log2 < 1920 then .ok (.w (.str (toString i))) st else .stuck
  | [.w (.str x)] => .ok (.w (.str x)) st
  | _ => .stuck
@[simp] def bInt (ts : List T) (st : FS) : R T := match ts with
  | [.w (.int i)] => .ok (.w (.int i)) st
  | [.w (.bl k)] => .ok (.w (.int (if k then 1 else 0))) st
  | [.w (.str a)] => (match PySem.intText? a with
    | some n => if a.length ≤ 640 then .ok (.w (.int n)) st else .stuck
    | none => .stuck)
  | _ => .stuck


end MV

namespace MV
open PySem PySem.Spec PyProof.Rows L2


@[simp] def eDNew (st : FS) : R T := .ok (.new (.dic [])) st
end MV

namespace MV
open PySem PySem.Spec PyProof.Rows L2



@[simp] def bYes (st : FS) : R Bool := .ok true st
end MV

namespace MV
open PySem PySem.Spec PyProof.Rows L2

@[simp] def gB (tb : TgB) (x : Ar) (st : FS) : R Unit := match x with
  | .w w => (match setB tb w st with
    | some st' => .ok () st'
    | none => .stuck)
  | _ => .stuck


def pickL {α : Type} (xs : List α) (lo hi st : Option Int) : List α := (sliceRange (sliceBounds lo hi st xs.length).1 (sliceBounds lo hi st xs.length).2.1 (sliceBounds lo hi st xs.length).2.2).filterMap (xs[·]?)
@[simp] def eSlS (de : FS → R T) (lo hi : Option (FS → R T)) (ds : FS → R T) (st : FS) : R T := (de st).bind fun t st1 => (eO lo st1).bind fun l st2 => (eO hi st2).bind fun h st3 => (eO (some ds) st3).bind fun c st4 => match t with
  | .w (.rol xs) => if c ≠ some 0 then .ok (.new (.lst (pickL xs l h c))) st4 else .stuck
  | t => (match lstOf st4 t with
    | some xs => if c ≠ some 0 then .ok (.new (.lst (pickL xs l h c))) st4 else .stuck
    | none => .stuck)
end MV

namespace MV
open PySem PySem.Spec PyProof.Rows L2

@[simp] def bList (ts : List T) (st : FS) : R T := match ts with
  | [t] => (match seqOf st t with
    | some xs => .ok (.new (.lst xs)) st
    | none => .stuck)
  | _ => .stuck
@[simp] def bTuple (ts : List T) (st : FS) : R T := match ts with
  | [t] => (match seqOf st t with
    | some xs => .ok (.w (.tup xs)) st
    | none => .stuck)
  | _ => .stuck

def intsOf : List W → Option (List Int)
  | [] => some []
  | .int i :: ws => (intsOf ws).map (i :: ·)
  | _ => none
def blsOf : List W → Option (List Bool)
  | [] => some []
  | .bl i :: ws => (blsOf ws).map (i :: ·)
  | _ => none
@[simp] def liOf (st : FS) : T → Option (List W)
  | .w (.rol xs) => some xs
  | t => lstOf st t
def maxI : List Int → Int
  | [] => 0
  | [n] => n
  | n :: ns => if maxI ns > n then maxI ns else n
def minI : List Int → Int
  | [] => 0
  | [n] => n
  | n :: ns => if minI ns < n then minI ns else n
@[simp] def bInts (f : List Int → Option W) (ts : List T) (st : FS) : R T := match ts with
  | [t] => (match (liOf st t).bind intsOf with
    | some ns => (match f ns with
      | some w => .ok (.w w) st
      | none => .stuck)
    | none => .stuck)
  | _ => .stuck
@[simp] def bBls (f : List Bool → W) (ts : List T) (st : FS) : R T := match ts with
  | [t] => (match (liOf st t).bind blsOf with
    | some ns => .ok (.w (f ns)) st
    | none => .stuck)
  | _ => .stuck
@[simp] def fSum (ns : List Int) : Option W := some (.int ns.sum)
@[simp] def fMax (ns : List Int) : Option W := if ns = [] then none else some (.int (maxI ns))
@[simp] def fMin (ns : List Int) : Option W := if ns = [] then none else some (.int (minI ns))
end MV

namespace MV
open PySem PySem.Spec PyProof.Rows L2

@[simp] def oAddI (tx ty : T) (st : FS) : R T := match tx, ty with
  | .w (.int i), .w (.int j) => .ok (.w (.int (i + j))) st
  | .w (.str a), .w (.str b) => if a.length + b.length ≤ sizeLine then .ok (.w (.str (a ++ b))) st else .stuck
  | _, _ => .stuck
def uniqN (ns : List Int) : Nat := (PyProof.Rows.firstMet (fun i => ns.getD i 0) ns.length).length
@[simp] def eLS (d : FS → R T) (st : FS) : R T := (d st).bind fun t st1 => match (liOf st1 t).bind intsOf with
  | some ns => if ns.length ≤ 4000 then .ok (.w (.int (uniqN ns : Nat))) st1 else .stuck
  | none => .stuck
end MV

namespace MV
open PySem PySem.Spec PyProof.Rows L2

def pairK : W → Option (Key × W)
  | .tup [k, v] => (keyW k).map fun k => (k, v)
  | _ => none
def pairsK : List W → Option (List (Key × W))
  | [] => some []
  | w :: ws => (pairK w).bind fun p => (pairsK ws).map (p :: ·)
@[simp] def bDictP (ts : List T) (st : FS) : R T := match ts with
  | [t] => (match (liOf st t).bind pairsK with
    | some kvs => .ok (.new (.dic (mrgW [] kvs))) st
    | none => .stuck)
  | _ => .stuck
@[simp] def mInsert : Mt := fun n ws => match n, ws with
  | .lst xs, [.int i, w] => if xs.length < sizeLine ∧ 0 ≤ i ∧ i < 2 ^ 63 then some (.non, .lst (xs.take i.toNat ++ [w] ++ xs.drop i.toNat)) else none
  | _, _ => none
end MV

namespace MV
open PySem PySem.Spec PyProof.Rows L2
@[simp] def eUpd (d de : FS → R T) (st : FS) : R T := (d st).bind fun t st1 => match ndOf st1 t with
  | some (.dic _) => (de st1).bind fun u st2 => (match ndOf st2 t, u with
    | some (.dic kvs), .new (.dic more) => if kvs.length + more.length ≤ sizeLine then .ok (.w .non) (setNd st2 t (.dic (mrgW kvs more))) else .stuck
    | _, _ => .stuck)
  | _ => .stuck
end MV


namespace MV
open PySem PySem.Spec PyProof.Rows L2
@[irreducible] def wFuel : Nat := 10000000
@[simp] def eM1 (op : Str → T → FS → R T) (d e : FS → R T) (st : FS) : R T := (d st).bind fun t st1 => match t with
  | .w (.str a) => (e st1).bind fun u st2 => op a u st2
  | _ => .stuck
def strsOf : List W → Option (List Str)
  | [] => some []
  | .str x :: ws => (strsOf ws).map (x :: ·)
  | _ => none
@[simp] def oJoin (a : Str) (t : T) (st : FS) : R T := match (seqOf st t).bind strsOf with
  | some ys => if (ys.map (·.length)).sum + ys.length * a.length ≤ 16777216 then .ok (.w (.str (Txt.join a ys))) st else .stuck
  | none => .stuck
@[simp] def oSplit (a : Str) (t : T) (st : FS) : R T := match t with
  | .w (.str b) => if (b.length == 0) = false ∧ a.length + 2 ≤ sizeLine then .ok (.new (.lst ((Txt.split a b).map .str))) st else .stuck
  | _ => .stuck
@[simp] def oStarts (a : Str) (t : T) (st : FS) : R T := match t with
  | .w (.str b) => .ok (.w (.bl (Txt.startswith a b))) st
  | _ => .stuck
section
variable {X : Cx} {Wx : MX} {o e : Expr} {d de : FS → R T} {apos pos : Pos}
def stepT {α : Type} (xs : List α) (lo hi st : Option Int) : List α := (List.range (Builtin.Slice.slicePlaces (Builtin.Slice.sliceAdjust lo hi (st.getD 1) (xs.length : Int)).1 (Builtin.Slice.sliceAdjust lo hi (st.getD 1) (xs.length : Int)).2 (st.getD 1))).filterMap
  fun (k : Nat) => xs[((Builtin.Slice.sliceAdjust lo hi (st.getD 1) (xs.length : Int)).1 + (k : Int) * st.getD 1).toNat]?
@[simp] def eSlA (de : FS → R T) (lo hi : Option (FS → R T)) (ds : FS → R T) (st : FS) : R T := (de st).bind fun t st1 => (eO lo st1).bind fun l st2 => (eO hi st2).bind fun h st3 => (eO (some ds) st3).bind fun c st4 => match t with
  | .w (.tup xs) => if c ≠ some 0 ∧ (stepT xs l h c).length ≤ sizeLine then .ok (.w (.tup (stepT xs l h c))) st4 else .stuck
  | .w (.rol xs) => if c ≠ some 0 then .ok (.new (.lst (pickL xs l h c))) st4 else .stuck
  | t => (match lstOf st4 t with
    | some xs => if c ≠ some 0 then .ok (.new (.lst (pickL xs l h c))) st4 else .stuck
    | none => .stuck)
@[simp] def iAq (d : FS → R T) (st : FS) : R Wlk := match iSt d st with
  | .ok t st1 => .ok t st1
  | _ => iSq d st
end
end MV

namespace MV
open PySem PySem.Spec PyProof.Rows L2
theorem Fd.mem_all (f : Fd) : f ∈ Fd.all := by cases f <;> decide
theorem Fd.inj_all : ∀ a ∈ Fd.all, ∀ b ∈ Fd.all, a.s = b.s → a = b := by decide +kernel
theorem Fd.inj {a b : Fd} (h : a.s = b.s) : a = b := Fd.inj_all a a.mem_all b b.mem_all h
section
variable {K : PySem.W.Frag} {g g0 : G} {H H0 : Hp} {σ : L2.St} {st : FS}
theorem Fzk.trans {g1 g2 : G} {H1 H2 : Hp} (a : Fzk g H g1 H1) (b : Fzk g1 H1 g2 H2) : Fzk g H g2 H2 := ⟨fun j h => (b.1 j (Nat.lt_of_lt_of_le h a.2.1)).trans (a.1 j h), Nat.le_trans a.2.1 b.2.1, fun x o h e => b.2.2 x o (a.2.2 x o h e).1 (a.2.2 x o h e).2⟩
end
@[simp] def insOf (st : FS) : T → Option (Nat × Cl × List (Fd × W))
  | .w (.ref n) => (match st.s[n]? with
    | some (.ins c fs) => some (n, c, fs)
    | _ => none)
  | _ => none
@[simp] def eFld (cs : List Cl) (f : Fd) (d : FS → R T) (st : FS) : R T := (d st).bind fun t st1 => match insOf st1 t with
  | some (_, c, fs) => if c ∈ cs then (match fget fs f with
    | some w => .ok (.w w) st1
    | none => .stuck) else .stuck
  | none => .stuck
structure ClsF (K : PySem.W.Frag) (cs : List Cl) (f : Fd) : Prop where
  c : ∀ c ∈ cs, Cls K (He.ga K c.s)
  n : ∀ c ∈ cs, NoAttr K (He.ga K c.s) f.s
@[simp] def gFld (cs : List Cl) (f : Fd) (do_ : FS → R T) (x : Ar) (st : FS) : R Unit := (do_ st).bind fun t st1 => match insOf st1 t with
  | some (n, c, fs) => if c ∈ cs ∧ fs.length < 900 then (match x with
    | .w w => .ok () ⟨st1.r, st1.s.set n (.ins c (fput fs f w))⟩
    | .own nd => .ok () ⟨st1.r, (st1.s ++ [Ob.con nd]).set n (.ins c (fput fs f (.ref st1.s.length)))⟩
    | _ => .stuck) else .stuck
  | none => .stuck
end MV

namespace MV
open PySem PySem.Spec PyProof.Rows L2
abbrev Arr := List (Nat ⊕ W)
@[simp] def arrG : Arr → List Sl → Option (List Sl)
  | [], _ => some []
  | .inl i :: r, ss => (match ss[i]?, arrG r ss with
    | some s, some t => some (s :: t)
    | _, _ => none)
  | .inr w :: r, ss => (match arrG r ss with
    | some t => some (.val w :: t)
    | none => none)
def arrV : Arr → List V → Option (List V)
  | [], _ => some []
  | .inl i :: r, zs => (match zs[i]?, arrV r zs with
    | some s, some t => some (s :: t)
    | _, _ => none)
  | .inr w :: r, zs => (match cV w, arrV r zs with
    | some v, some t => some (v :: t)
    | _, _ => none)
structure KOk (K : PySem.W.Frag) (fd : FuncData) (ps : List Str) (n : Nat) (ks : List Str) (arr : Arr) : Prop where
  ex : ∃ g gV, KBn K fd ps n ks g gV ∧ ∀ vs zs : List V, zs.length = ks.length → ∃ us, arrV arr zs = some us ∧ gV vs zs = vs ++ us
theorem arrV_inr {zs : List V} : ∀ {dv : List W} {dvs : List V}, dv.map cV = dvs.map some → arrV (dv.map .inr) zs = some dvs
  | [], [], _ => rfl
  | [], _ :: _, h => by cases h
  | _ :: _, [], h => by cases h
  | w :: dv, v :: dvs, h => by
    simp only [List.map_cons, List.cons.injEq] at h
    simp only [List.map_cons, arrV, h.1, arrV_inr h.2]
theorem KOk.pos {K : PySem.W.Frag} {fd : FuncData} {ps : List Str} {n : Nat} {ds : List Value} {dvs : List V} {dv : List W} (hb : Binds K fd ps ds) (hd : Vals dvs ds) (hc : dv.map cV = dvs.map some) (hn : n + dv.length = ps.length) : KOk K fd ps n [] (dv.map .inr) := by
  have hl : dv.length = dvs.length := by have := congrArg List.length hc; simpa using this
  refine ⟨fun us _ => us ++ ds, fun vs _ => vs ++ dvs, ⟨fun s us ws X h1 h2 => hb s us X ?_, fun r _ => r.append hd⟩, fun vs zs _ => ⟨dvs, arrV_inr hc, rfl⟩⟩
  rw [List.length_append, h1, ← hd.length]
  omega
@[simp] def callA (f : Fn) (arr : Arr) (pre : List W) (das dks : FS → R (List Ar)) (st : FS) : R T := (das st).bind fun as st1 => (dks st1).bind fun ks st2 => match slotsOf st2 (pre.map .w ++ as), slotsOf st2 ks with
  | some sa, some sk => (match arrG arr sk with
    | some sd => if owns as ≤ 1 ∧ owns ks = 0 then backR st2 (f (sa ++ sd) st2.s) else .stuck
    | none => .stuck)
  | _, _ => .stuck
end MV

namespace MV
open PySem PySem.Spec PyProof.Rows L2
def backM (st : FS) (n : Nat) : R T → R T
  | .ok (.w .non) st2 => .ok (.w (.ref n)) ⟨st.r, st2.s⟩
  | .ok _ _ => .stuck
  | .ex c fs st2 => .ex c fs ⟨st.r, st2.s⟩
  | .stuck => .stuck
@[simp] def eMake (c : Cl) (f : Fn) (arr : Arr) (das dks : FS → R (List Ar)) (st : FS) : R T := (das st).bind fun as st1 => (dks st1).bind fun ks st2 => match slotsOf st2 (.w (.ref st2.s.length) :: as), slotsOf st2 ks with
  | some sa, some sk => (match arrG arr sk with
    | some sd => if owns as ≤ 1 ∧ owns ks = 0 then backM st2 st2.s.length (f (sa ++ sd) (st2.s ++ [.ins c []])) else .stuck
    | none => .stuck)
  | _, _ => .stuck
@[simp] def mget : List (Cl × Fn) → Cl → Option Fn
  | [], _ => none
  | (k, f) :: r, c => if k = c then some f else mget r c
@[simp] def eMeth (tbl : List (Cl × Fn)) (arr : Arr) (do_ : FS → R T) (das dks : FS → R (List Ar)) (st : FS) : R T := (do_ st).bind fun t st1 => match insOf st1 t with
  | some (n, c, _) => (match mget tbl c with
    | some f => callA f arr [.ref n] das dks st1
    | none => .stuck)
  | none => .stuck
end MV

namespace MV
open PySem PySem.Spec PyProof.Rows L2
def keysI {α : Type} : List (Key × α) → Option (List Int)
  | [] => some []
  | (.inl i, _) :: r => (keysI r).map (i :: ·)
  | _ => none
@[simp] def walkI (st : FS) (t : T) : Option (List Int) := match liOf st t with
  | some ws => intsOf ws
  | none => (match dicR st t with
    | some kvs => keysI kvs
    | none => none)
@[simp] def bSrt (f : List Int → List Int) (ts : List T) (st : FS) : R T := match ts with
  | [t] => (match walkI st t with
    | some ns => .ok (.new (.lst ((f ns).map .int))) st
    | none => .stuck)
  | _ => .stuck
end MV

namespace MV
open PySem PySem.Spec PyProof.Rows L2
@[simp] def eLk (d : FS → R T) (st : FS) : R T := (d st).bind fun t st1 => match t with
  | .new (.dic kvs) => .ok (.w (.dic (kvs.map (·.1)) (kvs.map (·.2)))) st1
  | t => .ok t st1
@[simp] def eDGet1 (dd di : FS → R T) (st : FS) : R T := (dd st).bind fun t st1 => match dicR st1 t with
  | some _ => (di st1).bind fun ti st2 => (match dicR st2 t, keyOf ti with
    | some kvs, some k => .ok (.w ((getK kvs k).getD .non)) st2
    | _, _ => .stuck)
  | none => .stuck
@[simp] def eDGet2 (dd di dx : FS → R T) (st : FS) : R T := (dd st).bind fun t st1 => match dicR st1 t with
  | some _ => (di st1).bind fun ti st2 => (dx st2).bind fun tx st3 => (match dicR st3 t, keyOf ti with
    | some kvs, some k => (match getK kvs k with
      | some w => .ok (.w w) st3
      | none => .ok tx st3)
    | _, _ => .stuck)
  | none => .stuck
def dropW (kvs : List (Key × W)) (k : Key) : List (Key × W) := kvs.filter fun kv => decide (kv.1 ≠ k)
@[simp] def eDPop1 (dd di : FS → R T) (st : FS) : R T := (dd st).bind fun t st1 => match ndOf st1 t with
  | some (.dic _) => (di st1).bind fun ti st2 => (match ndOf st2 t, keyOf ti with
    | some (.dic kvs), some k => (match getK kvs k with
      | some w => .ok (.w w) (setNd st2 t (.dic (dropW kvs k)))
      | none => .stuck)
    | _, _ => .stuck)
  | _ => .stuck
@[simp] def eDSet (dd di dx : FS → R T) (st : FS) : R T := (dd st).bind fun t st1 => match ndOf st1 t with
  | some (.dic _) => (di st1).bind fun ti st2 => (dx st2).bind fun tx st3 => (match ndOf st3 t, keyOf ti with
    | some (.dic kvs), some k => if kvs.length < sizeLine then (match getK kvs k with
      | some w => .ok (.w w) st3
      | none => (match tx with
        | .w w => .ok (.w w) (setNd st3 t (.dic (setK kvs k w)))
        | .new n => .ok (.w (.ref st3.s.length)) (setNd ⟨st3.r, st3.s ++ [.con n]⟩ t (.dic (setK kvs k (.ref st3.s.length))))
        | _ => .stuck)) else .stuck
    | _, _ => .stuck)
  | _ => .stuck
end MV

namespace MV
open PySem PySem.Spec PyProof.Rows L2
@[simp] def sUnpS (d : FS → R T) (i : Nat) (dgs : List (Ar → FS → R Unit)) (st : FS) : R Fl := (d st).bind fun t st1 => match seqOf st1 t with
  | some ws => if i ≤ ws.length ∧ ws.length ≤ 16384 then (gAll dgs ((ws.take i).map .w ++ [.own (.lst (ws.drop i))]) st1).bind fun _ st2 => .ok .nx st2 else .stuck
  | none => .stuck
@[simp] def aMv (i : Nat) (st : FS) : R Ar := match st.r[i]? with
  | some (.own n) => .ok (.own n) (st.setr i .no)
  | some (.val w) => .ok (.w w) st
  | _ => .stuck
@[simp] def eExt (dd dx : FS → R T) (st : FS) : R T := (dd st).bind fun t st1 => match ndOf st1 t with
  | some (.lst _) => (dx st1).bind fun tx st2 => (match ndOf st2 t, lstOf st2 tx with
    | some (.lst xs), some ys => if xs.length + ys.length ≤ sizeLine then .ok (.w .non) (setNd st2 t (.lst (xs ++ ys))) else .stuck
    | _, _ => .stuck)
  | _ => .stuck
@[simp] def eRg1 (d : FS → R T) (st : FS) : R (Int × Int) := (d st).bind fun t st1 => match t with
  | .w (.int j) => .ok (0, j) st1
  | _ => .stuck
@[simp] def eRg2 (da db : FS → R T) (st : FS) : R (Int × Int) := (da st).bind fun t st1 => (db st1).bind fun t2 st2 => match t, t2 with
  | .w (.int i), .w (.int j) => .ok (i, j) st2
  | _, _ => .stuck
def rgW (a b : Int) : List W := (List.range (b - a).toNat).map fun (i : Nat) => W.int (a + (i : Int))
@[simp] def eLR (d : FS → R (Int × Int)) (st : FS) : R T := (d st).bind fun p st1 => if RgOk p.1 p.2 then .ok (.new (.lst (rgW p.1 p.2))) st1 else .stuck
@[simp] def eTR (d : FS → R (Int × Int)) (st : FS) : R T := (d st).bind fun p st1 => if RgOk p.1 p.2 then .ok (.w (.tup (rgW p.1 p.2))) st1 else .stuck
end MV

namespace MV
open PySem PySem.Spec PyProof.Rows L2
@[simp] def sFldAugI (cs : List Cl) (f : Fd) (do_ d : FS → R T) (st : FS) : R Fl := (do_ st).bind fun t st1 => match insOf st1 t with
  | some (n, c, fs) => if c ∈ cs then (match fget fs f with
    | some (.int i) => (d st1).bind fun ty st2 => (match ty, insOf st2 t with
      | .w (.int j), some (_, c2, fs2) => if c2 = c ∧ fs2.length < 900 then .ok .nx ⟨st2.r, st2.s.set n (.ins c (fput fs2 f (.int (i + j))))⟩ else .stuck
      | _, _ => .stuck)
    | _ => .stuck) else .stuck
  | none => .stuck
@[simp] def isRef (m : Nat) : Option W → Bool
  | some (.ref n) => n == m
  | _ => false
@[simp] def sFldAugL (cs : List Cl) (f : Fd) (do_ d : FS → R T) (st : FS) : R Fl := (do_ st).bind fun t st1 => match insOf st1 t with
  | some (n, c, fs) => if c ∈ cs then (match fget fs f with
    | some (.ref m) => (d st1).bind fun ty st2 => (match lstOf st2 ty, lstOf st2 (.w (.ref m)), insOf st2 t with
      | some ys, some xs, some (_, c2, fs2) => if c2 = c ∧ fs2.length < 900 ∧ xs.length + ys.length ≤ sizeLine ∧ isRef m (fget fs2 f) = true then .ok .nx ⟨st2.r, st2.s.set m (.con (.lst (xs ++ ys)))⟩ else .stuck
      | _, _, _ => .stuck)
    | _ => .stuck) else .stuck
  | none => .stuck
@[simp] def keyWv : Key → W
  | .inl i => .int i
  | .inr x => .str x
@[simp] def iDk (d : FS → R T) (st : FS) : R Wlk := (d st).bind fun t st1 => match t with
  | .w (.dic ks _) => .ok ⟨ks.map keyWv, none⟩ st1
  | _ => .stuck
def vOk (nvs : List (Key × W)) : W → Bool
  | .int i => (getK nvs (.inl i)).isSome
  | _ => false
def isNI : W → Bool
  | .int _ => true
  | .non => true
  | _ => false
@[simp] def eValsIn (i0 : Nat) (cs : List Cl) (f : Fd) (j i1 : Nat) (st : FS) : R T := match st.r[i0]? with
  | some (.val (.ref m)) => (match insOf st (.w (.ref m)) with
    | some (_, c, fs) => if c ∈ cs then (match fget fs f with
      | some (.ref n) => (match st.s[n]?, st.r[j]? with
        | some (.con (.dic kvs)), some (.own (.dic nvs)) => if (kvs.map (·.2)).all isNI = true ∧ j ≠ i1 ∧ kvs.length < sizeLine ∧ i1 < st.r.length then .ok (.new (.lst ((kvs.map (·.2)).filter (vOk nvs)))) (wS [i1] st) else .stuck
        | _, _ => .stuck)
      | _ => .stuck) else .stuck
    | none => .stuck)
  | _ => .stuck
end MV


namespace MV
open PySem PySem.Spec PyProof.Rows L2
section
variable {X : Cx} {a b : Expr} {ta tb : TE} {rest : List Expr} {pos : Pos}
def truTD (t : T) (st : FS) : Option Bool := match t with
  | .w (.dic ks _) => some (!ks.isEmpty)
  | t => truT t st
@[simp] theorem truTD_dic {ks : List Key} {ws : List W} {st : FS} : truTD (.w (.dic ks ws)) st = some (!ks.isEmpty) := rfl
@[simp] theorem truTD_non {st : FS} : truTD (.w .non) st = some false := rfl
@[simp] def eOrD (d e : FS → R T) (st : FS) : R T := (d st).bind fun t st1 => match truTD t st1 with
  | some b => if b = true then .ok t st1 else e st1
  | none => .stuck
end
section
variable {X : Cx} {Wx : MX} {e : Expr} {d : FS → R T}
@[simp] def iDq (d : FS → R T) (st : FS) : R Wlk := match iDk d st with
  | .ok t st1 => .ok t st1
  | _ => iSq d st
variable {a b : Expr} {rest : List Expr} {pos : Pos} {da db : FS → R T}
end
end MV

namespace MV
open PySem PySem.Spec PyProof.Rows L2
@[simp] def eObj (d : FS → R T) (st : FS) : R T := (d st).bind fun t st1 => match t with
  | .new n => .ok (.w (.ref st1.s.length)) ⟨st1.r, st1.s ++ [.con n]⟩
  | t => .ok t st1
end MV

namespace MV
open PySem PySem.Spec PyProof.Rows L2
section
variable {K : PySem.W.Frag} {Wx : MX} {g g0 g1 g2 : G} {H H0 H1 H2 : Hp} {σ σ0 : L2.St} {st : FS}
theorem Lw.wr {p : Addr} {o u : HO} (e : Lw g0 H0 g H) (hp : g.tg p = .tmp) (hu : H p = some u) : Lw g0 H0 g (L2.upd H p o) :=
  ⟨e.n, e.m, fun a u h q => by
    have ne : a ≠ p := fun z => by
      subst z
      have := (e.fz a u h q).1
      rw [hp] at this
      cases this
    rw [upd_ne ne]
    exact e.fz a u h q, fun a u h q => by
    have ne : a ≠ p := fun z => by
      subst z
      have := (e.no a u h q).1
      rw [hp, h] at this
      cases this
    rw [upd_ne ne]
    exact e.no a u h q, fun a h => by
    by_cases z : a = p
    · subst z; rw [upd_same] at h; cases h
    · rw [upd_ne z] at h; exact e.dom a h⟩
end
end MV

namespace MV
open PySem PySem.Spec PyProof.Rows L2
@[simp] def oAddB (tx ty : T) (st : FS) : R T := match tx, ty with
  | .w (.bl k), .w (.int j) => .ok (.w (.int (b2i k + j))) st
  | tx, ty => oAdd tx ty st
@[simp] def oSubB (tx ty : T) (st : FS) : R T := match tx, ty with
  | .w (.bl k), .w (.int j) => .ok (.w (.int (b2i k - j))) st
  | .w (.int j), .w (.bl k) => .ok (.w (.int (j - b2i k))) st
  | tx, ty => oSub tx ty st
@[simp] def bStrB (ts : List T) (st : FS) : R T := match ts with
  | [.w (.bl k)] => .ok (.w (.str (if k then "True" else "False"))) st
  | ts => bStr ts st
section
variable {X : Cx}
@[simp] def oIsB (tx ty : T) (st : FS) : R T := match tx, ty with
  | .w (.bl k), .w (.bl j) => .ok (.w (.bl (k == j))) st
  | _, _ => .stuck
end
end MV



namespace MV
open PySem PySem.Spec PyProof.Rows L2
abbrev Hd1 := Value × Option Nat × (Addr → Value → Option Addr → TS)
def NmOk (X : Cx) : Option Str → Option Nat → Prop
  | none, none => True
  | some n, some i => X.N[i]? = some n ∧ X.env.kindOf n = some .local
  | _, _ => False
inductive HsOk (X : Cx) : List ExceptHandler → List Hd1 → Prop
  | nil : HsOk X [] []
  | cons {x : Str} {c : Value} {on : Option Str} {oi : Option Nat} {ts : Addr → Value → Option Addr → TS} {b0 : Stmt} {su : List Stmt} {np pos : Pos} {hds : List ExceptHandler} {l : List Hd1} (hc : Names X x c) (hn : NmOk X on oi)
      (hs : ∀ (a : Addr) (oe : Obj) (cls : Value) (d : Option Addr) (pn : List (Addr × Obj)), L2N.Zn cls d oe → (∃ vs, oe.data = .fields vs) → PSs (X.suite a ((a, oe) :: pn)) (b0 :: su) (ts a cls d)) (r : HsOk X hds l) :
      HsOk X (.ExceptHandler (some (.Name x np)) on (b0 :: su) pos :: hds) ((c, oi, ts) :: l)
end MV

namespace MV
open PySem PySem.Spec PyProof.Rows L2
@[simp] def sRaise (c : Ec) (ns : List Str) (d : FS → R (List W)) (st : FS) : R Fl := (d st).bind fun ws st1 => if ws.length = ns.length then .ex c (ns.zip ws).reverse st1 else .stuck
@[simp] def sRaise0 (c : Ec) (st : FS) : R Fl := .ex c [] st
open Classical in
noncomputable def agree (f : Addr → R Fl) : R Fl := if ∀ a, f a = f 0 then f 0 else .stuck
@[simp] theorem agree_const {r : R Fl} : agree (fun _ => r) = r := if_pos fun _ => rfl
abbrev DH := Addr → Option Addr → Ec → FS → R Fl
@[simp] def onS (oi : Option Nat) (w : W) (st : FS) : FS := match oi with
  | none => st
  | some i => st.setr i (.val w)
@[simp] def offS (oi : Option Nat) : R Fl → R Fl
  | .ok f st => .ok f (match oi with
    | none => st
    | some i => st.setr i .no)
  | _ => .stuck
@[simp] noncomputable def sHs : List (Ec × Option Nat × DH) → Ec → List (Str × W) → FS → R Fl
  | [], c, fs, st => .ex c fs st
  | (e, oi, dh) :: r, c, fs, st => if xsub c (.own e) = true then (match fs with
    | [] => agree fun a => offS oi (dh a none c (onS oi (.adr a) st))
    | _ :: _ => agree fun a => agree fun d => offS oi (dh a (some d) c (onS oi (.xcp a d (fs.map (·.1)) (fs.map (·.2))) st))) else sHs r c fs st
noncomputable def sTry (cs : List Ec) (d1 : FS → R Fl) (hs : List (Ec × Option Nat × DH)) (st : FS) : R Fl := match d1 st with
  | .ex c fs st1 => if c ∈ cs then sHs hs c fs st1 else .stuck
  | r => r
inductive HdV (X : Cx) (cv : Ec → Value) (cs : List Ec) : List ExceptHandler → List (Ec × Option Nat × DH) → Prop
  | nil : HdV X cv cs [] []
  | cons {x : Str} {e : Ec} {on : Option Str} {oi : Option Nat} {dh : DH} {b0 : Stmt} {su : List Stmt} {np pos : Pos} {hds : List ExceptHandler} {l : List (Ec × Option Nat × DH)} (hg : Gl X x) (hm : X.mg x = some (.ref (He.ga X.K e.s))) (hn : NmOk X on oi)
      (hs : ∀ (a : Addr) (oe : Obj) (c : Ec) (d : Option Addr) (pn : List (Addr × Obj)), c ∈ cs → L2N.Zn (.ref (He.ga X.K c.s)) d oe → (∃ vs, oe.data = .fields vs) → VSs (X.suite a ((a, oe) :: pn)) (fun _ _ _ _ => False) (b0 :: su) (dh a d c)) (r : HdV X cv cs hds l)
      (hdb : (x == ("__debug__" : Str)) = false := by decide) : HdV X cv cs (.ExceptHandler (some (.Name x np)) on (b0 :: su) pos :: hds) ((e, oi, dh) :: l)
section
variable {X : Cx} {Wx : MX} {cv : Ec → Value} {cs : List Ec} {ts : List Tn}
@[simp] def eXf (a : Addr) (d : Option Addr) (i : Nat) (c e : Ec) (j : Nat) (st : FS) : R T := match st.r[i]? with
  | some (.val (.xcp b d2 ns ws)) => if b = a ∧ d = some d2 ∧ c = e ∧ ns = e.fl then (match ws[j]? with
    | some w => .ok (.w w) st
    | none => .stuck) else .stuck
  | _ => .stuck
@[simp] def eXis (a : Addr) (d : Option Addr) (i : Nat) (c : Ec) (ts : List Tn) (st : FS) : R T := match st.r[i]? with
  | some (.val (.adr b)) => if b = a ∧ d = none then .ok (.w (.bl (ts.any (xsub c)))) st else .stuck
  | some (.val (.xcp b d2 _ _)) => if b = a ∧ d = some d2 then .ok (.w (.bl (ts.any (xsub c)))) st else .stuck
  | _ => .stuck
end
end MV


namespace MV
open PySem PySem.Spec PyProof.Rows L2
def lstsOf : List W → Option (List (List W))
  | [] => some []
  | .lst xs :: r => (lstsOf r).map (xs :: ·)
  | _ => none
@[simp] def bSumL (ts : List T) (st : FS) : R T := match ts with
  | [t, .new (.lst [])] => (match liOf st t with
    | some ws => (match lstsOf ws with
      | some (l :: ls) => if (l :: ls).flatten.length ≤ sizeLine then .ok (.new (.lst (l :: ls).flatten)) st else .stuck
      | _ => .stuck)
    | none => .stuck)
  | _ => .stuck
@[simp] def eBits (d : FS → R T) (st : FS) : R T := (d st).bind fun t st1 => match t with
  | .w (.int i) => .ok (.w (.int (Builtin.Int.intBits i : Nat))) st1
  | _ => .stuck
@[simp] def eCnt (d : FS → R T) (k : Int) (st : FS) : R T := (d st).bind fun t st1 => match liOf st1 t with
  | some ws => (match intsOf ws with
    | some ns => .ok (.w (.int (ns.count k : Nat))) st1
    | none => .stuck)
  | none => .stuck
structure BaseM (K : PySem.W.Frag) (C f : Addr) (m : Str) : Prop where
  rd : PySem.W.readsIn K C (.type "type") = true
  ga : PySem.W.specialIn K (.ref C) "__getattribute__" = some (some (.builtin "type.__getattribute__"))
  at_ : PySem.W.findCls K (.ref C) (.type "type") m = some (.val (.ref f))
@[simp] def eFm (d : FS → R T) (st : FS) : R T := (d st).bind fun t st1 => match t with
  | .w (.str x) => if x.length ≤ sizeLine then .ok (.w (.str x)) st1 else .stuck
  | .w (.int i) => if i.natAbs.log2 < 1920 then .ok (.w (.str (toString i))) st1 else .stuck
  | _ => .stuck
@[simp] def eJs : List (FS → R T) → Str → FS → R T
  | [], acc, st => .ok (.w (.str acc)) st
  | d :: ds, acc, st => (d st).bind fun t st1 => match t with
    | .w (.str x) => if (acc ++ x).length ≤ sizeLine then eJs ds (acc ++ x) st1 else .stuck
    | _ => .stuck
@[simp] def eJoin (ds : List (FS → R T)) (st : FS) : R T := eJs ds Str.empty st
inductive VJ (X : Cx) (Wx : MX) : List Expr → List (FS → R MV.T) → Prop
  | nil : VJ X Wx [] []
  | cons {e : Expr} {d : FS → R MV.T} {es : List Expr} {ds : List (FS → R MV.T)} (h : VE X Wx e d) (r : VJ X Wx es ds) : VJ X Wx (e :: es) (d :: ds)
end MV

namespace MV
open PySem PySem.Spec PyProof.Rows L2

@[irreducible] def Yld {α : Type} (r : R α) (P : α → FS → Prop) : Prop := match r with
  | .ok a st => P a st
  | _ => False
section
variable {α β : Type} {r : R α} {P P' : α → FS → Prop} {st : FS} {a : α}
theorem yld_ok : Yld (.ok a st) P ↔ P a st := by unfold Yld; exact Iff.rfl
theorem yld_ex {c : Ec} {fs : List (Str × W)} : Yld (.ex c fs st : R α) P ↔ False := by unfold Yld; exact Iff.rfl
theorem yld_stuck : Yld (.stuck : R α) P ↔ False := by unfold Yld; exact Iff.rfl
theorem yld_bind {f : α → FS → R β} {P : β → FS → Prop} : Yld (r.bind f) P ↔ Yld r fun a st => Yld (f a st) P := by
  cases r with
  | ok a st => rw [R.bind_ok, yld_ok]
  | ex c fs st => rw [R.bind_ex, yld_ex, yld_ex]
  | stuck => rw [R.bind_stuck, yld_stuck, yld_stuck]
theorem Yld.mono (h : Yld r P) (hi : ∀ a st, P a st → P' a st) : Yld r P' := by
  cases r with
  | ok a st => rw [yld_ok] at h ⊢; exact hi _ _ h
  | ex c fs st => rw [yld_ex] at h; exact h.elim
  | stuck => rw [yld_stuck] at h; exact h.elim
theorem Yld.ex (h : Yld r P) : ∃ a st, r = .ok a st ∧ P a st := by
  cases r with
  | ok a st => rw [yld_ok] at h; exact ⟨a, st, rfl, h⟩
  | ex c fs st => rw [yld_ex] at h; exact h.elim
  | stuck => rw [yld_stuck] at h; exact h.elim
theorem Yld.of {a : α} {st : FS} (h : r = .ok a st) (p : P a st) : Yld r P := by rw [h, yld_ok]; exact p
end

theorem yld_back {st : FS} {r : R T} {P : T → FS → Prop} : Yld (backR st r) P ↔ Yld r fun t st2 => match t with
    | .loc _ => False
    | t => P t ⟨st.r, st2.s⟩ := by
  cases r with
  | ok t st2 =>
    rw [yld_ok]
    cases t with
    | loc i => exact yld_stuck
    | w w => exact yld_ok
    | new n => exact yld_ok
  | ex c fs st2 => rw [yld_ex]; exact yld_ex
  | stuck => rw [yld_stuck]; exact yld_stuck
theorem yld_fn {N : Nat} {d : FS → R Fl} {sls : List Sl} {s : List Ob} {P : T → FS → Prop} : Yld (fnOf N d sls s) P ↔ Yld (d ⟨sls ++ List.replicate (N - sls.length) .no, s⟩) fun f st => match f with
    | .nx => P (.w .non) st
    | .ret t => P t st
    | _ => False := by
  unfold fnOf
  cases d ⟨sls ++ List.replicate (N - sls.length) .no, s⟩ with
  | ok f st =>
    rw [yld_ok]
    cases f with
    | nx => exact yld_ok
    | ret t => exact yld_ok
    | brk => exact yld_stuck
    | cnt => exact yld_stuck
  | ex c fs st2 => exact yld_ex.trans yld_ex.symm
  | stuck => exact yld_stuck.trans yld_stuck.symm
def Rx {α β : Type} (_ : α → FS → R β) : Type := R α
def Rp {α : Type} (_ : α → FS → Prop) : Type := R α
def bindX {α β : Type} (f : α → FS → R β) (r : Rx f) : R β := R.bind (α := α) r f
@[irreducible] def YldX {α : Type} (P : α → FS → Prop) (r : Rp P) : Prop := Yld (α := α) r P
@[simp ↓] theorem bind_x {α β : Type} {f : α → FS → R β} {r : R α} : R.bind r f = bindX f r := rfl
@[simp ↓] theorem yld_x {α : Type} {P : α → FS → Prop} {r : R α} : Yld r P = YldX P r := by unfold YldX; rfl
@[simp] theorem bindX_ok {α β : Type} {f : α → FS → R β} {a : α} {st : FS} : bindX f (R.ok a st) = f a st := rfl
@[simp] theorem bindX_ex {α β : Type} {f : α → FS → R β} {c : Ec} {fs : List (Str × W)} {st : FS} : bindX f (R.ex c fs st : R α) = .ex c fs st := rfl
@[simp] theorem bindX_stuck {α β : Type} {f : α → FS → R β} : bindX f (R.stuck : R α) = .stuck := rfl
@[simp] theorem yldX_ok {α : Type} {P : α → FS → Prop} {a : α} {st : FS} : YldX P (R.ok a st) = P a st := by rw [← yld_x, yld_ok]
@[simp] theorem yldX_bind {α β : Type} {f : α → FS → R β} {r : R α} {P : β → FS → Prop} : YldX P (bindX f r) = Yld r fun a st => Yld (f a st) P := by
  rw [← yld_x]
  exact propext yld_bind
theorem yx {α : Type} {r : R α} {P P' : α → FS → Prop} (h : Yld r P) (k : ∀ a st, P a st → P' a st) : YldX P' r := by rw [← yld_x]; exact h.mono k
@[simp] theorem yldX_fn {N : Nat} {d : FS → R Fl} {sls : List Sl} {s : List Ob} {P : T → FS → Prop} : YldX P (fnOf N d sls s) = Yld (d ⟨sls ++ List.replicate (N - sls.length) .no, s⟩) fun f st => match f with
    | .nx => P (.w .non) st
    | .ret t => P t st
    | _ => False := by rw [← yld_x]; exact propext yld_fn
@[simp] theorem yldX_back {st : FS} {r : R T} {P : T → FS → Prop} : YldX P (backR st r) = Yld r fun t st2 => match t with
    | .loc _ => False
    | t => P t ⟨st.r, st2.s⟩ := by rw [← yld_x]; exact propext yld_back
@[simp] theorem yldX_backM {st : FS} {n : Nat} {r : R T} {P : T → FS → Prop} : YldX P (backM st n r) = Yld r fun t st2 => t = .w .non ∧ P (.w (.ref n)) ⟨st.r, st2.s⟩ := by
  rw [← yld_x]
  apply propext
  cases r with
  | ok t st2 =>
    rw [yld_ok]
    cases t with
    | loc i => exact ⟨fun h => (yld_stuck.mp h).elim, fun h => nomatch h.1⟩
    | new n => exact ⟨fun h => (yld_stuck.mp h).elim, fun h => nomatch h.1⟩
    | w w =>
      cases w with
      | non => exact yld_ok.trans ⟨fun h => ⟨rfl, h⟩, fun h => h.2⟩
      | _ => exact ⟨fun h => (yld_stuck.mp h).elim, fun h => nomatch h.1⟩
  | ex c fs st2 => rw [yld_ex]; exact yld_ex
  | stuck => rw [yld_stuck]; exact yld_stuck
@[simp] theorem back_ok {st st2 : FS} {w : W} : backR st (.ok (.w w) st2) = .ok (.w w) ⟨st.r, st2.s⟩ := rfl
@[simp] theorem back_new {st st2 : FS} {n : Nd} : backR st (.ok (.new n) st2) = .ok (.new n) ⟨st.r, st2.s⟩ := rfl

def Turn (P : Fl → FS → Prop) (I : FS → Prop) (fg : List Nat) (f : Fl) (st : FS) : Prop := match f with
  | .nx => I (forgetS fg st)
  | .cnt => I (forgetS fg st)
  | .brk => P .nx (forgetS fg st)
  | .ret t => P (.ret t) st
@[simp] theorem turn_nx {P : Fl → FS → Prop} {I : FS → Prop} {st : FS} {fg : List Nat} : Turn P I fg .nx st = I (forgetS fg st) := rfl
@[simp] theorem turn_cnt {P : Fl → FS → Prop} {I : FS → Prop} {st : FS} {fg : List Nat} : Turn P I fg .cnt st = I (forgetS fg st) := rfl
@[simp] theorem turn_brk {P : Fl → FS → Prop} {I : FS → Prop} {st : FS} {fg : List Nat} : Turn P I fg .brk st = P .nx (forgetS fg st) := rfl
@[simp] theorem turn_ret {P : Fl → FS → Prop} {I : FS → Prop} {st : FS} {fg : List Nat} {t : T} : Turn P I fg (.ret t) st = P (.ret t) st := rfl
theorem forG_yld {b : Option (Nat × List W)} {dg : Ar → FS → R Unit} {body : FS → R Fl} {fg : List Nat} {IV : Nat → FS → Prop} {P : Fl → FS → Prop} (hs : ∀ i st, IV i st → Wlk.Stay b st) : ∀ {ws : List W} {i : Nat} {st : FS},
    (∀ j w, ws[j]? = some w → ∀ st, IV (i + j) st → Yld (dg (.w w) st) fun _ st1 => Yld (body st1) (Turn P (IV (i + j + 1)) fg)) → (∀ st', IV (i + ws.length) st' → P .nx st') → IV i st → Yld (forG b dg body fg ws st) P
  | [], i, st, _, hP, h0 => by
    unfold forG
    rw [if_pos (hs _ _ h0)]
    exact yld_ok.mpr (hP st h0)
  | w :: ws, i, st, h, hP, h0 => by
    unfold forG
    rw [if_pos (hs _ _ h0)]
    have h1 := h 0 w rfl st h0
    rw [yld_bind]
    refine h1.mono fun _ st1 h2 => ?_
    rw [yld_bind]
    refine h2.mono fun f st2 h3 => ?_
    have ih : IV (i + 1) (forgetS fg st2) → Yld (forG b dg body fg ws (forgetS fg st2)) P := fun q => forG_yld (b := b) (dg := dg) (body := body) (fg := fg) (IV := IV) hs (ws := ws) (i := i + 1) (st := forgetS fg st2) (fun j w' e st' q => by
      have := h (j + 1) w' (by simpa using e) st' (by rw [Nat.add_assoc, Nat.add_comm 1 j] at q; exact q)
      rw [Nat.add_assoc i 1 j, Nat.add_comm 1 j]
      exact this) (fun st' q => hP st' (by rw [List.length_cons, Nat.add_comm ws.length 1, ← Nat.add_assoc]; exact q)) q
    cases f with
    | nx => exact ih h3
    | cnt => exact ih h3
    | brk => exact yld_ok.mpr h3
    | ret t => exact yld_ok.mpr h3
def ForOk (dg : Ar → FS → R Unit) (body : FS → R Fl) (fg : List Nat) (P : Fl → FS → Prop) (t : Wlk) (st1 : FS) : Prop :=
  ∃ IV : Nat → FS → Prop, (∀ j st, IV j st → Wlk.Stay t.base st) ∧ IV 0 st1 ∧ (∀ j w, t.ws[j]? = some w → ∀ st, IV j st → Yld (dg (.w w) st) fun _ st1 => Yld (body st1) (Turn P (IV (j + 1)) fg)) ∧ ∀ st', IV t.ws.length st' → P .nx st'
theorem for_yld {di : FS → R Wlk} {dg : Ar → FS → R Unit} {body : FS → R Fl} {fg : List Nat} {st : FS} {P : Fl → FS → Prop} (h : Yld (di st) (ForOk dg body fg P)) : Yld (sFor di dg body fg st) P := by
  unfold sFor
  rw [yld_bind]
  refine h.mono fun t st1 ⟨IV, hb, h0, h1, h2⟩ => ?_
  exact forG_yld (b := t.base) (IV := IV) hb (i := 0) (by simpa only [Nat.zero_add] using h1) (by simpa only [Nat.zero_add] using h2) h0
theorem for_x {di : FS → R Wlk} {dg : Ar → FS → R Unit} {body : FS → R Fl} {fg : List Nat} {st : FS} {P : Fl → FS → Prop} (h : Yld (di st) (ForOk dg body fg P)) : YldX P (sFor di dg body fg st) := by rw [← yld_x]; exact for_yld h

theorem yld_noX {α : Type} {r : R α} {P : α → FS → Prop} : Yld (noX r) P ↔ Yld r P := by
  cases r with
  | ok a st => exact Iff.rfl
  | ex c fs st => rw [yld_ex]; exact yld_stuck
  | stuck => exact Iff.rfl
def LcOk (tb : TgB) (dc : FS → R Bool) (de : FS → R W) (vs : List Nat) (P : T → FS → Prop) (t : Wlk) (st1 : FS) : Prop :=
  t.ws.length ≤ sizeLine ∧ ∃ IV : Nat → List W → List Ob → Prop, (∀ j acc s, IV j acc s → Wlk.Stay t.base ⟨(wS vs st1).r, s⟩) ∧ IV 0 [] st1.s ∧
    (∀ j w acc s, t.ws[j]? = some w → IV j acc s → ∃ st2, setB tb w ⟨(wS vs st1).r, s⟩ = some st2 ∧ Yld (dc st2) fun c st3 =>
      if c = true then Yld (de st3) fun x st4 => (wS vs st4).r = (wS vs st1).r ∧ IV (j + 1) (acc ++ [x]) st4.s else (wS vs st3).r = (wS vs st1).r ∧ IV (j + 1) acc st3.s) ∧
    ∀ acc s, IV t.ws.length acc s → P (.new (.lst acc)) ⟨(wS vs st1).r, s⟩
theorem lcG_yld {b : Option (Nat × List W)} {tb : TgB} {dc : FS → R Bool} {de : FS → R W} {vs : List Nat} {r0 : List Sl} {P : List W → FS → Prop} {IV : Nat → List W → List Ob → Prop} (hs : ∀ j acc s, IV j acc s → Wlk.Stay b ⟨r0, s⟩) : ∀ {ws : List W} {i : Nat} {acc : List W} {s : List Ob},
    (∀ j w acc s, ws[j]? = some w → IV (i + j) acc s → ∃ st2, setB tb w ⟨r0, s⟩ = some st2 ∧ Yld (dc st2) fun c st3 =>
      if c = true then Yld (de st3) fun x st4 => (wS vs st4).r = r0 ∧ IV (i + j + 1) (acc ++ [x]) st4.s else (wS vs st3).r = r0 ∧ IV (i + j + 1) acc st3.s) →
    (∀ acc s, IV (i + ws.length) acc s → P acc ⟨r0, s⟩) → acc.length ≤ i → i + ws.length ≤ sizeLine → IV i acc s → Yld (lcG tb dc de vs b r0 ws acc s) P
  | [], i, acc, s, _, hP, _, _, h0 => by
    unfold lcG
    rw [if_pos (hs _ _ _ h0)]
    exact yld_ok.mpr (hP acc s h0)
  | w :: ws, i, acc, s, h, hP, ha, hz, h0 => by
    unfold lcG
    rw [if_pos (hs _ _ _ h0)]
    obtain ⟨st2, e, h1⟩ := h 0 w acc s rfl h0
    rw [e]
    simp only
    rw [yld_bind, yld_noX]
    rw [List.length_cons] at hz
    have go : ∀ (acc' : List W) (s' : List Ob), acc'.length ≤ i + 1 → IV (i + 1) acc' s' → Yld (lcG tb dc de vs b r0 ws acc' s') P := fun acc' s' ha' q =>
      lcG_yld (IV := IV) hs (ws := ws) (i := i + 1) (fun j w' a s e q => by
        have := h (j + 1) w' a s (by simpa using e) (by rw [Nat.add_assoc, Nat.add_comm 1 j] at q; exact q)
        rw [Nat.add_assoc i 1 j, Nat.add_comm 1 j]
        exact this) (fun a s q => hP a s (by rw [List.length_cons, Nat.add_comm ws.length 1, ← Nat.add_assoc]; exact q)) ha' (by omega) q
    refine h1.mono fun c st3 h2 => ?_
    split
    · rename_i hc
      rw [if_pos hc] at h2
      rw [yld_bind, yld_noX]
      refine h2.mono fun x st4 h3 => ?_
      rw [if_pos ⟨h3.1, by omega⟩]
      exact go _ _ (by rw [List.length_append]; simp; omega) h3.2
    · rename_i hc
      rw [if_neg hc] at h2
      rw [if_pos h2.1]
      exact go _ _ (by omega) h2.2
theorem lc_yld {di : FS → R Wlk} {tb : TgB} {dc : FS → R Bool} {de : FS → R W} {vs : List Nat} {st : FS} {P : T → FS → Prop} (h : Yld (di st) (LcOk tb dc de vs P)) : Yld (eLc di tb dc de vs st) P := by
  unfold eLc
  rw [yld_bind]
  refine h.mono fun t st1 ⟨hz, IV, hb, h0, h1, h2⟩ => ?_
  rw [yld_bind]
  exact lcG_yld (IV := IV) hb (i := 0) (by simpa only [Nat.zero_add] using h1) (fun acc s q => yld_ok.mpr (h2 acc s (by simpa only [Nat.zero_add] using q))) (Nat.le_refl _) (by simpa only [Nat.zero_add] using hz) h0
theorem lc_x {di : FS → R Wlk} {tb : TgB} {dc : FS → R Bool} {de : FS → R W} {vs : List Nat} {st : FS} {P : T → FS → Prop} (h : Yld (di st) (LcOk tb dc de vs P)) : YldX P (eLc di tb dc de vs st) := by rw [← yld_x]; exact lc_yld h
theorem draw_z {many : Int} (h : many.natAbs < 2 ^ 8999) : many.natAbs.log2 < 9000 := by
  by_cases h0 : many.natAbs = 0
  · rw [h0]; decide
  · exact Nat.lt_succ_of_lt ((Nat.log2_lt h0).mpr h)
def tape (cs : List Int) (sp lf : Int) : Ob := .con (.dic [(.inr "cells", .lst (cs.map .int)), (.inr "spot", .int sp), (.inr "left", .int lf)])
def Tape (s0 s : List Ob) (n : Nat) (b : Nat) : Prop := (s.length = s0.length ∧ ∀ i, i ≠ n → s[i]? = s0[i]?) ∧ ∃ (cs : List Int) (sp lf : Int), s[n]? = some (tape cs sp lf) ∧ cs ≠ [] ∧ cs.length ≤ 63 ∧ 0 ≤ sp ∧ sp ≤ b ∧ 0 ≤ lf
theorem tp_cells {a b c : W} : getK [(.inr "cells", a), (.inr "spot", b), (.inr "left", c)] (.inr "cells") = some a := rfl
theorem tp_spot {a b c : W} : getK [(.inr "cells", a), (.inr "spot", b), (.inr "left", c)] (.inr "spot") = some b := rfl
theorem tp_left {a b c : W} : getK [(.inr "cells", a), (.inr "spot", b), (.inr "left", c)] (.inr "left") = some c := rfl
theorem tp_sspot {a b c d : W} : setK [(.inr "cells", a), (.inr "spot", b), (.inr "left", c)] (.inr "spot") d = [(.inr "cells", a), (.inr "spot", d), (.inr "left", c)] := rfl
theorem tp_sleft {a b c d : W} : setK [(.inr "cells", a), (.inr "spot", b), (.inr "left", c)] (.inr "left") d = [(.inr "cells", a), (.inr "spot", b), (.inr "left", d)] := rfl
theorem atW_of {α : Type} {xs : List α} {i : Int} (h0 : 0 ≤ i) (h1 : i < xs.length) : ∃ w, w ∈ xs ∧ atW xs i = some w := by
  have hn : i.toNat < xs.length := by omega
  refine ⟨xs[i.toNat], List.getElem_mem hn, ?_⟩
  unfold atW L2.atI L2.ixN
  rw [if_pos h0, if_pos h1]
  show xs[i.toNat]? = _
  rw [List.getElem?_eq_getElem hn]
theorem atW_int {cs : List Int} {i : Int} (h0 : 0 ≤ i) (h1 : i < cs.length) : ∃ c, atW (cs.map W.int) i = some (.int c) := by
  obtain ⟨w, h2, h3⟩ := atW_of (xs := cs.map W.int) h0 (by simpa using h1)
  obtain ⟨c, _, rfl⟩ := List.mem_map.mp h2
  exact ⟨c, h3⟩
theorem mulOk_of {i j : Int} (hi : i.natAbs < 2 ^ 60) (hj : j.natAbs < 2 ^ 60) : mulOk i j := by
  have log : ∀ n : Nat, n < 2 ^ 60 → n.log2 ≤ 60 := fun n h => by
    by_cases h0 : n = 0
    · subst h0; decide
    · exact Nat.le_of_lt ((Nat.log2_lt h0).mpr h)
  have h1 := log _ hi
  have h2 := log _ hj
  unfold mulOk
  omega
variable {s0 : List Ob}
theorem draw_yld {s : List Ob} {n b : Nat} {many : Int} (h : Tape s0 s n b) (hb : b < 2 ^ 40) (hm : 0 < many) (hz : many.natAbs.log2 < 9000) : Yld (F__law_draw [.val (.ref n), .val (.int many)] s) fun t st => ∃ r, t = .w (.int r) ∧ 0 ≤ r ∧ r < many ∧ Tape s0 st.s n (b + 1) := by
  obtain ⟨hfr, cs, sp, lf, h1, h2, h3, h4, h5, h6⟩ := h
  have hn := (List.getElem?_eq_some_iff.mp h1).1
  unfold F__law_draw D__law_draw K__law_draw_7
  have hset : ∀ x, (s.set n x)[n]? = some x := fun x => List.getElem?_set_self hn
  have fin : ∀ (lf' sp' : Int), 0 ≤ lf' → 0 ≤ sp' → sp' ≤ b + 1 → Tape s0 (s.set n (tape cs sp' (lf' / many))) n (b + 1) := fun lf' sp' q1 q2 q3 =>
    ⟨⟨by rw [List.length_set]; exact hfr.1, fun i hi => by rw [List.getElem?_set_ne (Ne.symm hi)]; exact hfr.2 i hi⟩, cs, sp', lf' / many, hset _, h2, h3, q2, by omega, Int.ediv_nonneg q1 (by omega)⟩
  unfold tape at *
  have h3s : 3 < sizeLine := by rw [sizeLine_eq]; omega
  by_cases hl : lf < many
  · have hcl : (0 : Int) < cs.length := by
      have := List.length_pos_iff.mpr h2
      omega
    have hcl' : 0 < cs.length := by omega
    obtain ⟨c, hc⟩ := atW_int (cs := cs) (i := sp % (cs.length : Int)) (Int.emod_nonneg _ (by omega)) (Int.emod_lt_of_pos _ hcl)
    have hmu : mulOk 69621 sp := mulOk_of (by omega) (by omega)
    have hpw : (c % 2147483647 + 69621 * sp + 48271).natAbs < 2 ^ 64 := by omega
    have nn : ∀ x : Int, 0 ≤ x % many := fun x => Int.emod_nonneg _ (by omega)
    have nl : ∀ x : Int, x % many < many := fun x => Int.emod_lt_of_pos _ hm
    have n50 : ∀ x : Int, 0 ≤ x % 100000000000000000000000000000000000000000000000151 := fun x => Int.emod_nonneg _ (by omega)
    by_cases hx : 1000000000000000000 ≤ c
    · by_cases hx2 : sp < cs.length
      · simp -dsimp -implicitDefEqProofs [sSeq, sNil, sIf, sPar, sAsg, sRet, sRetN, sExpr, sBrk, sCnt, sUnp, sAug, sAugL, retOf, gAll, gSet, gItem, gObj, aCons, aNil, aF, aL, aO, eF, frz, frz0, eAN, eAC, tN, tCo, eB, eBin, eC, eVar, eNeg, eIf, eNot, eAnd, eOr, eTup, eLst, eSl, eO, oSl, toB, bT, bNot, bAnd, bOr, truT, eChain, cOrd, oAdd, oSub, oMul, oDiv, oMod, oPow, oShr, oAnd, oIx, oIn, cIsN', cIsN, isLoc, dicOf, lstOf, seqOf, keyOf, keyW, ndOf, setNd, putN, dN, dC, eDisp, mrgW, eDNew, bLen, bIsi, bAbs, bMax2, bMin2, bStr, bInt, bRepr, reprW, tyT, FS.setr, List.length_set, List.length_cons, List.length_nil, List.set_cons_zero, List.set_cons_succ, List.getElem?_cons_zero, List.getElem?_cons_succ, List.replicate, List.cons_append, List.nil_append, eCall, slotsOf, slotOf, owns, isOwn, eMl, mAppend, mPop, iR1, iR2, iSq, iW, forgetS, eUpd, mInsert, bDictP, eLS, bList, bTuple, bInts, bBls, fSum, fMax, fMin, liOf, oAddI, gB, setB, setBs, wS, iEn, lstW, bYes, eSlS, turn_nx, turn_cnt, turn_brk, turn_ret, cEqN, scE, eM1, oJoin, oSplit, oStarts, iAq, iSt, eSlA, ↓bind_x, ↓yld_x, bindX_ok, bindX_ex, bindX_stuck, yldX_ok, yldX_bind, yldX_fn, yldX_back, back_ok, back_new, dicR, eFld, insOf, fget, fput, gFld, callA, arrG, eMeth, mget, eMake, yldX_backM, bSrt, walkI, eLk, eDGet1, eDGet2, eDPop1, eDSet, sUnpS, aMv, eExt, eRg1, eRg2, eLR, eTR, sFldAugI, sFldAugL, isRef, iDk, keyWv, eValsIn, eObj, h3s, hset, h1, tp_cells, tp_spot, tp_left, tp_sspot, tp_sleft, hl, hm, hz, hcl, hcl', hc, hmu, hpw, hx, hx2]
        exact ⟨nn _, nl _, fin _ _ (by omega) (by omega) (by omega)⟩
      · simp -dsimp -implicitDefEqProofs [sSeq, sNil, sIf, sPar, sAsg, sRet, sRetN, sExpr, sBrk, sCnt, sUnp, sAug, sAugL, retOf, gAll, gSet, gItem, gObj, aCons, aNil, aF, aL, aO, eF, frz, frz0, eAN, eAC, tN, tCo, eB, eBin, eC, eVar, eNeg, eIf, eNot, eAnd, eOr, eTup, eLst, eSl, eO, oSl, toB, bT, bNot, bAnd, bOr, truT, eChain, cOrd, oAdd, oSub, oMul, oDiv, oMod, oPow, oShr, oAnd, oIx, oIn, cIsN', cIsN, isLoc, dicOf, lstOf, seqOf, keyOf, keyW, ndOf, setNd, putN, dN, dC, eDisp, mrgW, eDNew, bLen, bIsi, bAbs, bMax2, bMin2, bStr, bInt, bRepr, reprW, tyT, FS.setr, List.length_set, List.length_cons, List.length_nil, List.set_cons_zero, List.set_cons_succ, List.getElem?_cons_zero, List.getElem?_cons_succ, List.replicate, List.cons_append, List.nil_append, eCall, slotsOf, slotOf, owns, isOwn, eMl, mAppend, mPop, iR1, iR2, iSq, iW, forgetS, eUpd, mInsert, bDictP, eLS, bList, bTuple, bInts, bBls, fSum, fMax, fMin, liOf, oAddI, gB, setB, setBs, wS, iEn, lstW, bYes, eSlS, turn_nx, turn_cnt, turn_brk, turn_ret, cEqN, scE, eM1, oJoin, oSplit, oStarts, iAq, iSt, eSlA, ↓bind_x, ↓yld_x, bindX_ok, bindX_ex, bindX_stuck, yldX_ok, yldX_bind, yldX_fn, yldX_back, back_ok, back_new, dicR, eFld, insOf, fget, fput, gFld, callA, arrG, eMeth, mget, eMake, yldX_backM, bSrt, walkI, eLk, eDGet1, eDGet2, eDPop1, eDSet, sUnpS, aMv, eExt, eRg1, eRg2, eLR, eTR, sFldAugI, sFldAugL, isRef, iDk, keyWv, eValsIn, eObj, h3s, hset, h1, tp_cells, tp_spot, tp_left, tp_sspot, tp_sleft, hl, hm, hz, hcl, hcl', hc, hmu, hpw, hx, hx2]
        exact ⟨nn _, nl _, fin _ _ (n50 _) (by omega) (by omega)⟩
    · simp -dsimp -implicitDefEqProofs [sSeq, sNil, sIf, sPar, sAsg, sRet, sRetN, sExpr, sBrk, sCnt, sUnp, sAug, sAugL, retOf, gAll, gSet, gItem, gObj, aCons, aNil, aF, aL, aO, eF, frz, frz0, eAN, eAC, tN, tCo, eB, eBin, eC, eVar, eNeg, eIf, eNot, eAnd, eOr, eTup, eLst, eSl, eO, oSl, toB, bT, bNot, bAnd, bOr, truT, eChain, cOrd, oAdd, oSub, oMul, oDiv, oMod, oPow, oShr, oAnd, oIx, oIn, cIsN', cIsN, isLoc, dicOf, lstOf, seqOf, keyOf, keyW, ndOf, setNd, putN, dN, dC, eDisp, mrgW, eDNew, bLen, bIsi, bAbs, bMax2, bMin2, bStr, bInt, bRepr, reprW, tyT, FS.setr, List.length_set, List.length_cons, List.length_nil, List.set_cons_zero, List.set_cons_succ, List.getElem?_cons_zero, List.getElem?_cons_succ, List.replicate, List.cons_append, List.nil_append, eCall, slotsOf, slotOf, owns, isOwn, eMl, mAppend, mPop, iR1, iR2, iSq, iW, forgetS, eUpd, mInsert, bDictP, eLS, bList, bTuple, bInts, bBls, fSum, fMax, fMin, liOf, oAddI, gB, setB, setBs, wS, iEn, lstW, bYes, eSlS, turn_nx, turn_cnt, turn_brk, turn_ret, cEqN, scE, eM1, oJoin, oSplit, oStarts, iAq, iSt, eSlA, ↓bind_x, ↓yld_x, bindX_ok, bindX_ex, bindX_stuck, yldX_ok, yldX_bind, yldX_fn, yldX_back, back_ok, back_new, dicR, eFld, insOf, fget, fput, gFld, callA, arrG, eMeth, mget, eMake, yldX_backM, bSrt, walkI, eLk, eDGet1, eDGet2, eDPop1, eDSet, sUnpS, aMv, eExt, eRg1, eRg2, eLR, eTR, sFldAugI, sFldAugL, isRef, iDk, keyWv, eValsIn, eObj, h3s, hset, h1, tp_cells, tp_spot, tp_left, tp_sspot, tp_sleft, hl, hm, hz, hcl, hcl', hc, hmu, hpw, hx]
      exact ⟨nn _, nl _, fin _ _ (n50 _) (by omega) (by omega)⟩
  · simp -dsimp -implicitDefEqProofs [sSeq, sNil, sIf, sPar, sAsg, sRet, sRetN, sExpr, sBrk, sCnt, sUnp, sAug, sAugL, retOf, gAll, gSet, gItem, gObj, aCons, aNil, aF, aL, aO, eF, frz, frz0, eAN, eAC, tN, tCo, eB, eBin, eC, eVar, eNeg, eIf, eNot, eAnd, eOr, eTup, eLst, eSl, eO, oSl, toB, bT, bNot, bAnd, bOr, truT, eChain, cOrd, oAdd, oSub, oMul, oDiv, oMod, oPow, oShr, oAnd, oIx, oIn, cIsN', cIsN, isLoc, dicOf, lstOf, seqOf, keyOf, keyW, ndOf, setNd, putN, dN, dC, eDisp, mrgW, eDNew, bLen, bIsi, bAbs, bMax2, bMin2, bStr, bInt, bRepr, reprW, tyT, FS.setr, List.length_set, List.length_cons, List.length_nil, List.set_cons_zero, List.set_cons_succ, List.getElem?_cons_zero, List.getElem?_cons_succ, List.replicate, List.cons_append, List.nil_append, eCall, slotsOf, slotOf, owns, isOwn, eMl, mAppend, mPop, iR1, iR2, iSq, iW, forgetS, eUpd, mInsert, bDictP, eLS, bList, bTuple, bInts, bBls, fSum, fMax, fMin, liOf, oAddI, gB, setB, setBs, wS, iEn, lstW, bYes, eSlS, turn_nx, turn_cnt, turn_brk, turn_ret, cEqN, scE, eM1, oJoin, oSplit, oStarts, iAq, iSt, eSlA, ↓bind_x, ↓yld_x, bindX_ok, bindX_ex, bindX_stuck, yldX_ok, yldX_bind, yldX_fn, yldX_back, back_ok, back_new, dicR, eFld, insOf, fget, fput, gFld, callA, arrG, eMeth, mget, eMake, yldX_backM, bSrt, walkI, eLk, eDGet1, eDGet2, eDPop1, eDSet, sUnpS, aMv, eExt, eRg1, eRg2, eLR, eTR, sFldAugI, sFldAugL, isRef, iDk, keyWv, eValsIn, eObj, h3s, hset, h1, tp_cells, tp_spot, tp_left, tp_sspot, tp_sleft, hl, hm, hz]
    exact ⟨Int.emod_nonneg _ (by omega), Int.emod_lt_of_pos _ hm, fin _ _ h6 (by omega) (by omega)⟩
theorem begun_yld {ns : List Int} {s : List Ob} (h : ns.length ≤ 63) : Yld (F__law_begun [.val (.rol (ns.map W.int))] s) fun t st => st.s = s ∧ ∃ cs : List Int, t = .new (.dic [(.inr "cells", .lst (cs.map .int)), (.inr "spot", .int 0), (.inr "left", .int 0)]) ∧ cs ≠ [] ∧ cs.length ≤ 63 := by
  have hcut : cutW (ns.map W.int) none (some 63) = ns.map W.int := by
    unfold cutW
    rw [HT.sIx_none, List.drop_zero, Nat.sub_zero]
    apply List.take_of_length_le
    rw [List.length_map]
    show ns.length ≤ HT.sIx ns.length ns.length (some ((63 : Nat) : Int))
    rw [HT.sIx_nat]
    omega
  have h1s : 1 ≤ sizeLine := by rw [sizeLine_eq]; omega
  have hm : ∀ a b c : W, List.foldl (fun acc kv => setK acc kv.fst kv.snd) [] [((.inr "cells" : Key), a), (.inr "spot", b), (.inr "left", c)] = [(.inr "cells", a), (.inr "spot", b), (.inr "left", c)] := fun _ _ _ => rfl
  unfold F__law_begun D__law_begun
  cases ns with
  | nil =>
    rw [List.map_nil] at hcut
    simp -dsimp -implicitDefEqProofs [sSeq, sNil, sIf, sPar, sAsg, sRet, sRetN, sExpr, sBrk, sCnt, sUnp, sAug, sAugL, retOf, gAll, gSet, gItem, gObj, aCons, aNil, aF, aL, aO, eF, frz, frz0, eAN, eAC, tN, tCo, eB, eBin, eC, eVar, eNeg, eIf, eNot, eAnd, eOr, eTup, eLst, eSl, eO, oSl, toB, bT, bNot, bAnd, bOr, truT, eChain, cOrd, oAdd, oSub, oMul, oDiv, oMod, oPow, oShr, oAnd, oIx, oIn, cIsN', cIsN, isLoc, dicOf, lstOf, seqOf, keyOf, keyW, ndOf, setNd, putN, dN, dC, eDisp, mrgW, eDNew, bLen, bIsi, bAbs, bMax2, bMin2, bStr, bInt, bRepr, reprW, tyT, FS.setr, List.length_set, List.length_cons, List.length_nil, List.set_cons_zero, List.set_cons_succ, List.getElem?_cons_zero, List.getElem?_cons_succ, List.replicate, List.cons_append, List.nil_append, eCall, slotsOf, slotOf, owns, isOwn, eMl, mAppend, mPop, iR1, iR2, iSq, iW, forgetS, eUpd, mInsert, bDictP, eLS, bList, bTuple, bInts, bBls, fSum, fMax, fMin, liOf, oAddI, gB, setB, setBs, wS, iEn, lstW, bYes, eSlS, turn_nx, turn_cnt, turn_brk, turn_ret, cEqN, scE, eM1, oJoin, oSplit, oStarts, iAq, iSt, eSlA, ↓bind_x, ↓yld_x, bindX_ok, bindX_ex, bindX_stuck, yldX_ok, yldX_bind, yldX_fn, yldX_back, back_ok, back_new, dicR, eFld, insOf, fget, fput, gFld, callA, arrG, eMeth, mget, eMake, yldX_backM, bSrt, walkI, eLk, eDGet1, eDGet2, eDPop1, eDSet, sUnpS, aMv, eExt, eRg1, eRg2, eLR, eTR, sFldAugI, sFldAugL, isRef, iDk, keyWv, eValsIn, eObj, h1s, hcut, hm]
    exact ⟨[0], rfl, by simp, by simp⟩
  | cons n ns =>
    rw [List.map_cons] at hcut
    simp -dsimp -implicitDefEqProofs [sSeq, sNil, sIf, sPar, sAsg, sRet, sRetN, sExpr, sBrk, sCnt, sUnp, sAug, sAugL, retOf, gAll, gSet, gItem, gObj, aCons, aNil, aF, aL, aO, eF, frz, frz0, eAN, eAC, tN, tCo, eB, eBin, eC, eVar, eNeg, eIf, eNot, eAnd, eOr, eTup, eLst, eSl, eO, oSl, toB, bT, bNot, bAnd, bOr, truT, eChain, cOrd, oAdd, oSub, oMul, oDiv, oMod, oPow, oShr, oAnd, oIx, oIn, cIsN', cIsN, isLoc, dicOf, lstOf, seqOf, keyOf, keyW, ndOf, setNd, putN, dN, dC, eDisp, mrgW, eDNew, bLen, bIsi, bAbs, bMax2, bMin2, bStr, bInt, bRepr, reprW, tyT, FS.setr, List.length_set, List.length_cons, List.length_nil, List.set_cons_zero, List.set_cons_succ, List.getElem?_cons_zero, List.getElem?_cons_succ, List.replicate, List.cons_append, List.nil_append, eCall, slotsOf, slotOf, owns, isOwn, eMl, mAppend, mPop, iR1, iR2, iSq, iW, forgetS, eUpd, mInsert, bDictP, eLS, bList, bTuple, bInts, bBls, fSum, fMax, fMin, liOf, oAddI, gB, setB, setBs, wS, iEn, lstW, bYes, eSlS, turn_nx, turn_cnt, turn_brk, turn_ret, cEqN, scE, eM1, oJoin, oSplit, oStarts, iAq, iSt, eSlA, ↓bind_x, ↓yld_x, bindX_ok, bindX_ex, bindX_stuck, yldX_ok, yldX_bind, yldX_fn, yldX_back, back_ok, back_new, dicR, eFld, insOf, fget, fput, gFld, callA, arrG, eMeth, mget, eMake, yldX_backM, bSrt, walkI, eLk, eDGet1, eDGet2, eDPop1, eDSet, sUnpS, aMv, eExt, eRg1, eRg2, eLR, eTR, sFldAugI, sFldAugL, isRef, iDk, keyWv, eValsIn, eObj, h1s, hcut, hm]
    exact ⟨n :: ns, rfl, by simp, h⟩
theorem pick_yld {s : List Ob} {n b : Nat} {xs : List W} (h : Tape s0 s n b) (hb : b < 2 ^ 40) (h0 : xs ≠ []) (hl : xs.length < 2 ^ 62) : Yld (F__law_pick [.val (.ref n), .val (.lst xs)] s) fun t st => ∃ w, t = .w w ∧ w ∈ xs ∧ Tape s0 st.s n (b + 1) := by
  unfold F__law_pick D__law_pick
  have hp := List.length_pos_iff.mpr h0
  have hz : ((xs.length : Nat) : Int).natAbs.log2 < 9000 := by
    have : (xs.length).log2 < 62 := (Nat.log2_lt (by omega)).mpr hl
    simp
    omega
  simp -dsimp -implicitDefEqProofs [sSeq, sNil, sIf, sPar, sAsg, sRet, sRetN, sExpr, sBrk, sCnt, sUnp, sAug, sAugL, retOf, gAll, gSet, gItem, gObj, aCons, aNil, aF, aL, aO, eF, frz, frz0, eAN, eAC, tN, tCo, eB, eBin, eC, eVar, eNeg, eIf, eNot, eAnd, eOr, eTup, eLst, eSl, eO, oSl, toB, bT, bNot, bAnd, bOr, truT, eChain, cOrd, oAdd, oSub, oMul, oDiv, oMod, oPow, oShr, oAnd, oIx, oIn, cIsN', cIsN, isLoc, dicOf, lstOf, seqOf, keyOf, keyW, ndOf, setNd, putN, dN, dC, eDisp, mrgW, eDNew, bLen, bIsi, bAbs, bMax2, bMin2, bStr, bInt, bRepr, reprW, tyT, FS.setr, List.length_set, List.length_cons, List.length_nil, List.set_cons_zero, List.set_cons_succ, List.getElem?_cons_zero, List.getElem?_cons_succ, List.replicate, List.cons_append, List.nil_append, eCall, slotsOf, slotOf, owns, isOwn, eMl, mAppend, mPop, iR1, iR2, iSq, iW, forgetS, eUpd, mInsert, bDictP, eLS, bList, bTuple, bInts, bBls, fSum, fMax, fMin, liOf, oAddI, gB, setB, setBs, wS, iEn, lstW, bYes, eSlS, turn_nx, turn_cnt, turn_brk, turn_ret, cEqN, scE, eM1, oJoin, oSplit, oStarts, iAq, iSt, eSlA, ↓bind_x, ↓yld_x, bindX_ok, bindX_ex, bindX_stuck, yldX_ok, yldX_bind, yldX_fn, yldX_back, back_ok, back_new, dicR, eFld, insOf, fget, fput, gFld, callA, arrG, eMeth, mget, eMake, yldX_backM, bSrt, walkI, eLk, eDGet1, eDGet2, eDPop1, eDSet, sUnpS, aMv, eExt, eRg1, eRg2, eLR, eTR, sFldAugI, sFldAugL, isRef, iDk, keyWv, eValsIn, eObj]
  refine yx (draw_yld h hb (by omega) hz) ?_
  rintro _ st ⟨r, rfl, h1, h2, h3⟩
  obtain ⟨w, hw, hx⟩ := atW_of h1 h2
  simp -dsimp -implicitDefEqProofs [sSeq, sNil, sIf, sPar, sAsg, sRet, sRetN, sExpr, sBrk, sCnt, sUnp, sAug, sAugL, retOf, gAll, gSet, gItem, gObj, aCons, aNil, aF, aL, aO, eF, frz, frz0, eAN, eAC, tN, tCo, eB, eBin, eC, eVar, eNeg, eIf, eNot, eAnd, eOr, eTup, eLst, eSl, eO, oSl, toB, bT, bNot, bAnd, bOr, truT, eChain, cOrd, oAdd, oSub, oMul, oDiv, oMod, oPow, oShr, oAnd, oIx, oIn, cIsN', cIsN, isLoc, dicOf, lstOf, seqOf, keyOf, keyW, ndOf, setNd, putN, dN, dC, eDisp, mrgW, eDNew, bLen, bIsi, bAbs, bMax2, bMin2, bStr, bInt, bRepr, reprW, tyT, FS.setr, List.length_set, List.length_cons, List.length_nil, List.set_cons_zero, List.set_cons_succ, List.getElem?_cons_zero, List.getElem?_cons_succ, List.replicate, List.cons_append, List.nil_append, eCall, slotsOf, slotOf, owns, isOwn, eMl, mAppend, mPop, iR1, iR2, iSq, iW, forgetS, eUpd, mInsert, bDictP, eLS, bList, bTuple, bInts, bBls, fSum, fMax, fMin, liOf, oAddI, gB, setB, setBs, wS, iEn, lstW, bYes, eSlS, turn_nx, turn_cnt, turn_brk, turn_ret, cEqN, scE, eM1, oJoin, oSplit, oStarts, iAq, iSt, eSlA, ↓bind_x, ↓yld_x, bindX_ok, bindX_ex, bindX_stuck, yldX_ok, yldX_bind, yldX_fn, yldX_back, back_ok, back_new, dicR, eFld, insOf, fget, fput, gFld, callA, arrG, eMeth, mget, eMake, yldX_backM, bSrt, walkI, eLk, eDGet1, eDGet2, eDPop1, eDSet, sUnpS, aMv, eExt, eRg1, eRg2, eLR, eTR, sFldAugI, sFldAugL, isRef, iDk, keyWv, eValsIn, eObj, hx]
  exact ⟨hw, h3⟩
theorem Tape.le {s : List Ob} {n b b' : Nat} (h : Tape s0 s n b) (hb : b ≤ b') : Tape s0 s n b' := by
  obtain ⟨hfr, cs, sp, lf, h1, h2, h3, h4, h5, h6⟩ := h
  exact ⟨hfr, cs, sp, lf, h1, h2, h3, h4, by omega, h6⟩
theorem draw_s {s : List Ob} {n b : Nat} {many : Int} (h : Tape s0 s n b) (hb : b < 2 ^ 40) (hm : 0 < many) (hz : many < 2 ^ 60) : Yld (F__law_draw [.val (.ref n), .val (.int many)] s) fun t st => ∃ r, t = .w (.int r) ∧ 0 ≤ r ∧ r < many ∧ Tape s0 st.s n (b + 1) := by
  refine draw_yld h hb hm ?_
  have h0 : many.natAbs ≠ 0 := by omega
  have h1 : many.natAbs.log2 < 60 := (Nat.log2_lt h0).mpr (by omega)
  omega
theorem tape_new {s : List Ob} {cs : List Int} (h1 : cs ≠ []) (h2 : cs.length ≤ 63) : Tape (s ++ [Ob.con (.dic [(.inr "cells", .lst (cs.map .int)), (.inr "spot", .int 0), (.inr "left", .int 0)])]) (s ++ [Ob.con (.dic [(.inr "cells", .lst (cs.map .int)), (.inr "spot", .int 0), (.inr "left", .int 0)])]) s.length 0 :=
  ⟨⟨rfl, fun _ _ => rfl⟩, cs, 0, 0, by simp [tape], h1, h2, by omega, by omega, by omega⟩
theorem Tape.here {s : List Ob} {n b : Nat} (h : Tape s0 s n b) : Tape s s n b := ⟨⟨rfl, fun _ _ => rfl⟩, h.2⟩
theorem Tape.keep {s s' : List Ob} {n b : Nat} (h : Tape s0 s n b) (hk : s'[n]? = s[n]?) : Tape s' s' n b := by
  obtain ⟨_, cs, sp, lf, h1, h2⟩ := h
  exact ⟨⟨rfl, fun _ _ => rfl⟩, cs, sp, lf, by rw [hk]; exact h1, h2⟩
theorem Tape.at {s : List Ob} {n b : Nat} (h : Tape s0 s n b) {i : Nat} (hi : i ≠ n) : s[i]? = s0[i]? := h.1.2 i hi
theorem Tape.len {s : List Ob} {n b : Nat} (h : Tape s0 s n b) : s.length = s0.length := h.1.1
theorem Tape.lt {s : List Ob} {n b : Nat} (h : Tape s0 s n b) : n < s.length := by
  obtain ⟨_, cs, sp, lf, h1, h2⟩ := h
  exact (List.getElem?_eq_some_iff.mp h1).1
end MV

namespace MV
open PySem PySem.Spec PyProof.Rows L2
variable {s0 : List Ob}
theorem lsz {n : Nat} (h : n ≤ 16777216) : n ≤ sizeLine := by rw [sizeLine_eq]; exact h
theorem lsz2 {n : Nat} (h : n < 16777216) : n < sizeLine := by rw [sizeLine_eq]; exact h
theorem own_nil : owns [] = 0 := rfl
theorem own_w {w : W} {as : List Ar} : owns (.w w :: as) = owns as := rfl
theorem own_loc {i : Nat} {as : List Ar} : owns (.loc i :: as) = owns as := rfl
theorem own_bor {n : Nd} {as : List Ar} : owns (.bor n :: as) = owns as := rfl
theorem own_own {n : Nd} {as : List Ar} : owns (.own n :: as) = owns as + 1 := rfl
theorem sm62 {j : Int} (h1 : -4611686018427387904 ≤ j) (h2 : j < 4611686018427387904) : small62 j = True := eq_true ⟨by omega, by omega⟩
theorem mul_s {i j : Int} (h1 : -1000000000000000000 < i) (h2 : i < 1000000000000000000) (h3 : -1000000000000000000 < j) (h4 : j < 1000000000000000000) : mulOk i j = True := eq_true (mulOk_of (by omega) (by omega))
theorem ile_t {i j : Int} (h : i ≤ j) : (i ≤ j) = True := eq_true h
theorem ile_f {i j : Int} (h : j < i) : (i ≤ j) = False := eq_false (by omega)
theorem ilt_t {i j : Int} (h : i < j) : (i < j) = True := eq_true h
theorem ilt_f {i j : Int} (h : j ≤ i) : (i < j) = False := eq_false (by omega)
theorem nle_t {i j : Nat} (h : i ≤ j) : (i ≤ j) = True := eq_true h
theorem nlt_t {i j : Nat} (h : i < j) : (i < j) = True := eq_true h
theorem ieq_f {i j : Int} (h : i < j ∨ j < i) : (i = j) = False := eq_false (by omega)
theorem log_s {j : Int} (h1 : -1000000000000000000 < j) (h2 : j < 1000000000000000000) : (j.natAbs.log2 < 9000) = True := eq_true (draw_z (Nat.lt_of_lt_of_le (show j.natAbs < 2 ^ 60 by omega) (Nat.pow_le_pow_right (by omega) (by omega))))
section
variable {dg : Ar → FS → R Unit} {body : FS → R Fl} {fg : List Nat} {P : Fl → FS → Prop} {st1 : FS} {α : Type}
theorem fo_range {lo : Int} {n : Nat} (IV : Nat → FS → Prop) (h0 : IV 0 st1) (h1 : ∀ j, j < n → ∀ st, IV j st → Yld (dg (.w (.int (lo + (j : Int)))) st) fun _ st1 => Yld (body st1) (Turn P (IV (j + 1)) fg)) (h2 : ∀ st', IV n st' → P .nx st') : ForOk dg body fg P ⟨intsW lo n, none⟩ st1 :=
  ⟨IV, fun _ _ _ => True.intro, h0, fun j w hw st h => by
    obtain ⟨hj, rfl⟩ := ints_get hw
    exact h1 j hj st h, fun st' h => h2 st' (by rwa [show (⟨intsW lo n, none⟩ : Wlk).ws.length = n from ints_len] at h)⟩
end
section
variable {tb : TgB} {dc : FS → R Bool} {de : FS → R W} {vs : List Nat} {P : T → FS → Prop} {st1 : FS} {α : Type}
theorem lo_map {xs : List α} {e : α → W} (hz : xs.length ≤ 16777216) (IV : Nat → List W → List Ob → Prop) (h0 : IV 0 [] st1.s)
    (h1 : ∀ j x acc s, xs[j]? = some x → IV j acc s → ∃ st2, setB tb (e x) ⟨(wS vs st1).r, s⟩ = some st2 ∧ Yld (dc st2) fun c st3 => if c = true then Yld (de st3) fun x st4 => (wS vs st4).r = (wS vs st1).r ∧ IV (j + 1) (acc ++ [x]) st4.s else (wS vs st3).r = (wS vs st1).r ∧ IV (j + 1) acc st3.s)
    (h2 : ∀ acc s, IV xs.length acc s → P (.new (.lst acc)) ⟨(wS vs st1).r, s⟩) : LcOk tb dc de vs P ⟨xs.map e, none⟩ st1 :=
  ⟨by show (xs.map e).length ≤ _; rw [List.length_map]; exact lsz hz, IV, fun _ _ _ _ => True.intro, h0, fun j w acc s hw h => by
    have hw : (xs.map e)[j]? = some w := hw
    rw [List.getElem?_map] at hw
    cases hx : xs[j]? with
    | none => rw [hx] at hw; cases hw
    | some x => rw [hx] at hw; cases hw; exact h1 j x acc s hx h, fun acc s h => h2 acc s (by rwa [show (⟨xs.map e, none⟩ : Wlk).ws.length = xs.length from List.length_map ..] at h)⟩
theorem lp_map {xs : List α} {e : α → W} (f : α → Option W) (hz : xs.length ≤ 16777216)
    (h : ∀ x ∈ xs, ∃ st2, setB tb (e x) (wS vs st1) = some st2 ∧ Yld (dc st2) fun c st3 => if c = true then Yld (de st3) fun y st4 => wS vs st4 = wS vs st1 ∧ f x = some y else wS vs st3 = wS vs st1 ∧ f x = none)
    (k : P (.new (.lst (xs.filterMap f))) (wS vs st1)) : LcOk tb dc de vs P ⟨xs.map e, none⟩ st1 := by
  have es : wS vs st1 = ⟨(wS vs st1).r, st1.s⟩ := by rw [← wS_s (st := st1) vs]
  refine lo_map hz (fun j acc s => acc = (xs.take j).filterMap f ∧ s = st1.s) ⟨by simp, rfl⟩ ?_ ?_
  · rintro j x acc s hw ⟨rfl, rfl⟩
    obtain ⟨st2, h1, h2⟩ := h x (List.mem_of_getElem? hw)
    refine ⟨st2, by rw [← es]; exact h1, h2.mono fun c st3 h3 => ?_⟩
    have ht : xs.take (j + 1) = xs.take j ++ [x] := by rw [List.take_add_one, hw]; rfl
    have hs : ∀ st4 : FS, wS vs st4 = wS vs st1 → st4.s = st1.s := fun st4 q => by
      have := congrArg FS.s q
      rwa [wS_s, wS_s] at this
    split
    · rename_i hc
      rw [if_pos hc] at h3
      refine h3.mono fun x st4 h4 => ⟨by rw [h4.1], ?_, hs _ h4.1⟩
      rw [ht, List.filterMap_append, List.filterMap_cons_some h4.2]
      rfl
    · rename_i hc
      rw [if_neg hc] at h3
      refine ⟨by rw [h3.1], ?_, hs _ h3.1⟩
      rw [ht, List.filterMap_append, List.filterMap_cons_none h3.2]
      simp
  · rintro acc s ⟨rfl, rfl⟩
    rw [List.take_length, ← es]
    exact k
end
def sOk (x : Str) : Prop := ∀ c ∈ x.cps.toList, c < 0x110000
mutual
def DW : Nat → W → Prop
  | _, .non => True
  | _, .bl _ => True
  | _, .int _ => True
  | _, .str x => sOk x
  | 0, _ => False
  | k + 1, .tup xs => DWs k xs
  | k + 1, .lst xs => DWs k xs
  | k + 1, .rol xs => DWs k xs
  | _ + 1, _ => False
def DWs : Nat → List W → Prop
  | _, [] => True
  | k, x :: xs => DW k x ∧ DWs k xs
end
def DX (w : W) : Prop := ∃ k, k ≤ 60 ∧ DW k w
theorem dws_all {k : Nat} : ∀ {xs : List W}, DWs k xs ↔ ∀ x ∈ xs, DW k x
  | [] => by unfold DWs; simp
  | x :: xs => by unfold DWs; rw [dws_all]; simp
mutual
def weq : W → W → Bool
  | .non, .non => true
  | .bl a, .bl b => a == b
  | .bl a, .int j => (if a then 1 else 0) == j
  | .int i, .bl b => i == (if b then 1 else 0)
  | .int i, .int j => i == j
  | .str x, .str y => x == y
  | .tup xs, .tup ys => weqs xs ys
  | .lst xs, .lst ys => weqs xs ys
  | .lst xs, .rol ys => weqs xs ys
  | .rol xs, .lst ys => weqs xs ys
  | .rol xs, .rol ys => weqs xs ys
  | _, _ => false
def weqs : List W → List W → Bool
  | [], [] => true
  | x :: xs, y :: ys => weq x y && weqs xs ys
  | _, _ => false
end
mutual
theorem dw_dat : ∀ {k : Nat} (w : W), DW k w → ∃ d, w.dat = some d ∧ d.canLay0 = true ∧ d.depth ≤ k
  | _, .non, _ => ⟨_, rfl, rfl, by simp [PyData.depth]⟩
  | _, .bl _, _ => ⟨_, rfl, rfl, by simp [PyData.depth]⟩
  | _, .int _, _ => ⟨_, rfl, rfl, by simp [PyData.depth]⟩
  | _, .str x, h => by
    have h : sOk x := by unfold DW at h; exact h
    refine ⟨_, rfl, ?_, by simp [PyData.depth]⟩
    simp only [PyData.canLay0, PyData.strOk]
    rw [← Array.all_toList, List.all_eq_true]
    exact fun c hc => decide_eq_true (h c hc)
  | k + 1, .tup xs, h => by
    obtain ⟨ds, h1, h2, h3⟩ := dws_dat (k := k) xs (by unfold DW at h; exact h)
    exact ⟨.tuple ds, by unfold W.dat; rw [h1]; rfl, by simp [PyData.canLay0, h2], by simp [PyData.depth]; omega⟩
  | k + 1, .lst xs, h => by
    obtain ⟨ds, h1, h2, h3⟩ := dws_dat (k := k) xs (by unfold DW at h; exact h)
    exact ⟨.list ds, by unfold W.dat; rw [h1]; rfl, by simp [PyData.canLay0, h2], by simp [PyData.depth]; omega⟩
  | k + 1, .rol xs, h => by
    obtain ⟨ds, h1, h2, h3⟩ := dws_dat (k := k) xs (by unfold DW at h; exact h)
    exact ⟨.list ds, by unfold W.dat; rw [h1]; rfl, by simp [PyData.canLay0, h2], by simp [PyData.depth]; omega⟩
  | k, .ty _, h => by cases k <;> (unfold DW at h; exact h.elim)
  | k, .adr _, h => by cases k <;> (unfold DW at h; exact h.elim)
  | k, .fn _, h => by cases k <;> (unfold DW at h; exact h.elim)
  | k, .tud _, h => by cases k <;> (unfold DW at h; exact h.elim)
  | k, .exn _ _ _, h => by cases k <;> (unfold DW at h; exact h.elim)
  | k, .ref _, h => by cases k <;> (unfold DW at h; exact h.elim)
  | k, .dic _ _, h => by cases k <;> (unfold DW at h; exact h.elim)
  | k, .xcp _ _ _ _, h => by cases k <;> (unfold DW at h; exact h.elim)
theorem dws_dat : ∀ {k : Nat} (ws : List W), DWs k ws → ∃ ds, dats ws = some ds ∧ PyData.canLayAll0 ds = true ∧ PyData.depthAll ds ≤ k
  | _, [], _ => ⟨[], rfl, rfl, by simp [PyData.depthAll]⟩
  | k, w :: ws, h => by
    have h : DW k w ∧ DWs k ws := by unfold DWs at h; exact h
    obtain ⟨d, h1, h2, h3⟩ := dw_dat w h.1
    obtain ⟨ds, h4, h5, h6⟩ := dws_dat ws h.2
    exact ⟨d :: ds, by unfold dats; rw [h1, h4]; rfl, by simp [PyData.canLayAll0, h2, h5], by simp [PyData.depthAll]; omega⟩
end
mutual
theorem eqv_weq : ∀ (w u : W) {d e : PyData}, w.dat = some d → u.dat = some e → PyData.eqv d e = weq w u
  | .non, u, d, e, h1, h2 => by
    cases h1
    cases u <;> simp only [W.dat, Option.some.injEq, Option.map_eq_some_iff, reduceCtorEq] at h2
    all_goals first | (subst h2; simp only [PyData.eqv, weq]) | (obtain ⟨_, _, rfl⟩ := h2; simp only [PyData.eqv, weq])
  | .bl a, u, d, e, h1, h2 => by
    cases h1
    cases u <;> simp only [W.dat, Option.some.injEq, Option.map_eq_some_iff, reduceCtorEq] at h2
    all_goals first | (subst h2; simp only [PyData.eqv, weq]) | (obtain ⟨_, _, rfl⟩ := h2; simp only [PyData.eqv, weq])
  | .int a, u, d, e, h1, h2 => by
    cases h1
    cases u <;> simp only [W.dat, Option.some.injEq, Option.map_eq_some_iff, reduceCtorEq] at h2
    all_goals first | (subst h2; simp only [PyData.eqv, weq]) | (obtain ⟨_, _, rfl⟩ := h2; simp only [PyData.eqv, weq])
  | .str a, u, d, e, h1, h2 => by
    cases h1
    cases u <;> simp only [W.dat, Option.some.injEq, Option.map_eq_some_iff, reduceCtorEq] at h2
    all_goals first | (subst h2; simp only [PyData.eqv, weq]) | (obtain ⟨_, _, rfl⟩ := h2; simp only [PyData.eqv, weq])
  | .tup xs, u, d, e, h1, h2 => by
    simp only [W.dat, Option.map_eq_some_iff] at h1
    obtain ⟨ds, h1, rfl⟩ := h1
    cases u <;> simp only [W.dat, Option.some.injEq, Option.map_eq_some_iff, reduceCtorEq] at h2
    all_goals first | (subst h2; simp only [PyData.eqv, weq]) | (obtain ⟨_, h2, rfl⟩ := h2; simp only [PyData.eqv, weq]; try exact eqvs_weqs xs _ h1 h2)
  | .lst xs, u, d, e, h1, h2 => by
    simp only [W.dat, Option.map_eq_some_iff] at h1
    obtain ⟨ds, h1, rfl⟩ := h1
    cases u <;> simp only [W.dat, Option.some.injEq, Option.map_eq_some_iff, reduceCtorEq] at h2
    all_goals first | (subst h2; simp only [PyData.eqv, weq]) | (obtain ⟨_, h2, rfl⟩ := h2; simp only [PyData.eqv, weq]; try exact eqvs_weqs xs _ h1 h2)
  | .rol xs, u, d, e, h1, h2 => by
    simp only [W.dat, Option.map_eq_some_iff] at h1
    obtain ⟨ds, h1, rfl⟩ := h1
    cases u <;> simp only [W.dat, Option.some.injEq, Option.map_eq_some_iff, reduceCtorEq] at h2
    all_goals first | (subst h2; simp only [PyData.eqv, weq]) | (obtain ⟨_, h2, rfl⟩ := h2; simp only [PyData.eqv, weq]; try exact eqvs_weqs xs _ h1 h2)
  | .ty _, _, _, _, h1, _ => by simp [W.dat] at h1
  | .adr _, _, _, _, h1, _ => by simp [W.dat] at h1
  | .fn _, _, _, _, h1, _ => by simp [W.dat] at h1
  | .tud _, _, _, _, h1, _ => by simp [W.dat] at h1
  | .exn _ _ _, _, _, _, h1, _ => by simp [W.dat] at h1
  | .ref _, _, _, _, h1, _ => by simp [W.dat] at h1
theorem eqvs_weqs : ∀ (ws us : List W) {d e : List PyData}, dats ws = some d → dats us = some e → PyData.eqvAll d e = weqs ws us
  | [], [], d, e, h1, h2 => by cases h1; cases h2; rfl
  | [], u :: us, d, e, h1, h2 => by
    cases h1
    simp only [dats, Option.bind_eq_some_iff, Option.map_eq_some_iff] at h2
    obtain ⟨_, _, _, _, rfl⟩ := h2
    simp only [PyData.eqvAll, weqs]
  | w :: ws, [], d, e, h1, h2 => by
    cases h2
    simp only [dats, Option.bind_eq_some_iff, Option.map_eq_some_iff] at h1
    obtain ⟨_, _, _, _, rfl⟩ := h1
    simp only [PyData.eqvAll, weqs]
  | w :: ws, u :: us, d, e, h1, h2 => by
    simp only [dats, Option.bind_eq_some_iff, Option.map_eq_some_iff] at h1 h2
    obtain ⟨a, h3, as, h4, rfl⟩ := h1
    obtain ⟨b, h5, bs, h6, rfl⟩ := h2
    simp only [PyData.eqvAll, weqs]
    rw [eqv_weq w u h3 h5, eqvs_weqs ws us h4 h6]
end
def nB (neg b : Bool) : Bool := if neg then !b else b
theorem eqD_of {neg : Bool} {w u : W} {tx ty : T} {st : FS} (h1 : DX w) (h2 : DX u) (e1 : datOf st tx = w.dat) (e2 : datOf st ty = u.dat) : cEqD neg tx ty st = .ok (.w (.bl (nB neg (weq w u)))) st := by
  obtain ⟨k1, hk1, h1⟩ := h1
  obtain ⟨k2, hk2, h2⟩ := h2
  obtain ⟨d, q1, q2, q3⟩ := dw_dat w h1
  obtain ⟨e, r1, r2, r3⟩ := dw_dat u h2
  unfold cEqD
  rw [e1, e2, q1, r1]
  simp only
  rw [if_pos ⟨q2, r2, by omega⟩, eqv_weq w u q1 r1]
  rfl
theorem datOf_w {st : FS} {w : W} (h : DX w) : datOf st (.w w) = w.dat := by
  cases w with
  | ref n =>
    obtain ⟨k, _, h⟩ := h
    cases k <;> (unfold DW at h; exact h.elim)
  | _ => rfl
theorem datOf_n {st : FS} {xs : List W} : datOf st (.new (.lst xs)) = (W.lst xs).dat := rfl
theorem eqD_ww {neg : Bool} {w u : W} {st : FS} (h1 : DX w) (h2 : DX u) : cEqD neg (.w w) (.w u) st = .ok (.w (.bl (nB neg (weq w u)))) st := eqD_of h1 h2 (datOf_w h1) (datOf_w h2)
theorem eqD_wn {neg : Bool} {w : W} {ys : List W} {st : FS} (h1 : DX w) (h2 : DX (.lst ys)) : cEqD neg (.w w) (.new (.lst ys)) st = .ok (.w (.bl (nB neg (weq w (.lst ys))))) st := eqD_of h1 h2 (datOf_w h1) datOf_n
theorem eqD_nw {neg : Bool} {u : W} {xs : List W} {st : FS} (h1 : DX (.lst xs)) (h2 : DX u) : cEqD neg (.new (.lst xs)) (.w u) st = .ok (.w (.bl (nB neg (weq (.lst xs) u)))) st := eqD_of h1 h2 datOf_n (datOf_w h2)
theorem eqD_nn {neg : Bool} {xs ys : List W} {st : FS} (h1 : DX (.lst xs)) (h2 : DX (.lst ys)) : cEqD neg (.new (.lst xs)) (.new (.lst ys)) st = .ok (.w (.bl (nB neg (weq (.lst xs) (.lst ys))))) st := eqD_of h1 h2 datOf_n datOf_n
theorem DW.mono : ∀ {k m : Nat} (w : W), k ≤ m → DW k w → DW m w
  | k, m, .non, _, _ => by unfold DW; trivial
  | k, m, .bl _, _, _ => by unfold DW; trivial
  | k, m, .int _, _, _ => by unfold DW; trivial
  | k, m, .str _, _, h => by unfold DW at *; exact h
  | k + 1, m + 1, .tup xs, e, h => by
    unfold DW at *
    rw [dws_all] at *
    exact fun x hx => DW.mono x (by omega) (h x hx)
  | k + 1, m + 1, .lst xs, e, h => by
    unfold DW at *
    rw [dws_all] at *
    exact fun x hx => DW.mono x (by omega) (h x hx)
  | k + 1, m + 1, .rol xs, e, h => by
    unfold DW at *
    rw [dws_all] at *
    exact fun x hx => DW.mono x (by omega) (h x hx)
  | 0, _, .tup _, _, h => by unfold DW at h; exact h.elim
  | 0, _, .lst _, _, h => by unfold DW at h; exact h.elim
  | 0, _, .rol _, _, h => by unfold DW at h; exact h.elim
  | 0, _, .ty _, _, h => by unfold DW at h; exact h.elim
  | 0, _, .adr _, _, h => by unfold DW at h; exact h.elim
  | 0, _, .fn _, _, h => by unfold DW at h; exact h.elim
  | 0, _, .tud _, _, h => by unfold DW at h; exact h.elim
  | 0, _, .exn _ _ _, _, h => by unfold DW at h; exact h.elim
  | 0, _, .ref _, _, h => by unfold DW at h; exact h.elim
  | 0, _, .dic _ _, _, h => by unfold DW at h; exact h.elim
  | 0, _, .xcp _ _ _ _, _, h => by unfold DW at h; exact h.elim
  | _ + 1, _, .ty _, _, h => by unfold DW at h; exact h.elim
  | _ + 1, _, .adr _, _, h => by unfold DW at h; exact h.elim
  | _ + 1, _, .fn _, _, h => by unfold DW at h; exact h.elim
  | _ + 1, _, .tud _, _, h => by unfold DW at h; exact h.elim
  | _ + 1, _, .exn _ _ _, _, h => by unfold DW at h; exact h.elim
  | _ + 1, _, .ref _, _, h => by unfold DW at h; exact h.elim
  | _ + 1, _, .dic _ _, _, h => by unfold DW at h; exact h.elim
  | _ + 1, _, .xcp _ _ _ _, _, h => by unfold DW at h; exact h.elim
theorem dw_lst {k : Nat} {xs : List W} (h : ∀ x ∈ xs, DW k x) : DW (k + 1) (.lst xs) := by unfold DW; exact dws_all.mpr h
theorem dw_tup {k : Nat} {xs : List W} (h : ∀ x ∈ xs, DW k x) : DW (k + 1) (.tup xs) := by unfold DW; exact dws_all.mpr h
theorem dw_ints {k : Nat} {xs : List Int} : ∀ x ∈ xs.map W.int, DW k x := by
  intro x hx
  obtain ⟨i, _, rfl⟩ := List.mem_map.mp hx
  unfold DW
  trivial
theorem dx_ints {xs : List Int} : DX (.lst (xs.map .int)) := ⟨1, by omega, dw_lst dw_ints⟩
mutual
theorem weq_refl : ∀ {k : Nat} (w : W), DW k w → weq w w = true
  | _, .non, _ => by simp [weq]
  | _, .bl _, _ => by simp [weq]
  | _, .int _, _ => by simp [weq]
  | _, .str _, _ => by simp [weq]
  | k + 1, .tup xs, h => by unfold weq; exact weqs_refl (k := k) xs (by unfold DW at h; exact h)
  | k + 1, .lst xs, h => by unfold weq; exact weqs_refl (k := k) xs (by unfold DW at h; exact h)
  | k + 1, .rol xs, h => by unfold weq; exact weqs_refl (k := k) xs (by unfold DW at h; exact h)
  | k, .ty _, h => by cases k <;> (unfold DW at h; exact h.elim)
  | k, .adr _, h => by cases k <;> (unfold DW at h; exact h.elim)
  | k, .fn _, h => by cases k <;> (unfold DW at h; exact h.elim)
  | k, .tud _, h => by cases k <;> (unfold DW at h; exact h.elim)
  | k, .exn _ _ _, h => by cases k <;> (unfold DW at h; exact h.elim)
  | k, .ref _, h => by cases k <;> (unfold DW at h; exact h.elim)
  | k, .dic _ _, h => by cases k <;> (unfold DW at h; exact h.elim)
  | k, .xcp _ _ _ _, h => by cases k <;> (unfold DW at h; exact h.elim)
theorem weqs_refl : ∀ {k : Nat} (ws : List W), DWs k ws → weqs ws ws = true
  | _, [], _ => by simp [weqs]
  | k, w :: ws, h => by
    have h : DW k w ∧ DWs k ws := by unfold DWs at h; exact h
    unfold weqs
    rw [weq_refl w h.1, weqs_refl ws h.2]
    rfl
end
theorem weq_rx {w : W} (h : DX w) : weq w w = true := by
  obtain ⟨k, _, h⟩ := h
  exact weq_refl w h
def SW (k n : Nat) (w : W) : Prop := ∃ d, w.dat = some d ∧ d.showable = true ∧ d.canLay0 = true ∧ d.depth ≤ k ∧ d.shown.length ≤ n
def SWs (k n : Nat) (ws : List W) : Prop := ∃ ds, dats ws = some ds ∧ PyData.showableAll ds = true ∧ PyData.canLayAll0 ds = true ∧ PyData.depthAll ds ≤ k ∧ piled (PyData.shownAll ds) ≤ n
def SX (w : W) : Prop := ∃ k n, k ≤ 60 ∧ n ≤ 16777216 ∧ SW k n w
def shw (w : W) : Str := match w.dat with
  | some d => d.shown
  | none => Str.empty
theorem SW.mono {k n k2 n2 : Nat} {w : W} (h : SW k n w) (hk : k ≤ k2) (hn : n ≤ n2) : SW k2 n2 w := by
  obtain ⟨d, h1, h2, h3, h4, h5⟩ := h
  exact ⟨d, h1, h2, h3, by omega, by omega⟩
theorem sw_int {i : Int} (h : i.natAbs < 2 ^ 120) : SW 0 122 (.int i) := by
  have hl : i.natAbs.log2 < 121 := by
    by_cases h0 : i.natAbs = 0
    · rw [h0]; decide
    · exact Nat.lt_of_lt_of_le ((Nat.log2_lt h0).mpr h) (by omega)
  refine ⟨.int i, rfl, by simp only [PyData.showable]; exact decide_eq_true (by omega), rfl, by simp [PyData.depth], ?_⟩
  have := int_text_length_le (a := i) (k := 121) (by omega) hl
  show (Str.ofString (toString i)).length ≤ 122
  rw [PySem.ofString_length]
  omega
theorem sws_nil {k : Nat} : SWs k 0 [] := ⟨[], rfl, rfl, rfl, by simp [PyData.depthAll], by simp [PyData.shownAll, piled]⟩
theorem sws_cons {k n m : Nat} {w : W} {ws : List W} (h : SW k n w) (hs : SWs k m ws) : SWs k (n + 2 + m) (w :: ws) := by
  obtain ⟨d, h1, h2, h3, h4, h5⟩ := h
  obtain ⟨ds, q1, q2, q3, q4, q5⟩ := hs
  refine ⟨d :: ds, by unfold dats; rw [h1, q1]; rfl, by simp [PyData.showableAll, h2, q2], by simp [PyData.canLayAll0, h3, q3], by simp [PyData.depthAll]; omega, ?_⟩
  simp only [PyData.shownAll, piled_cons]
  omega
theorem sws_all {k n : Nat} : ∀ {ws : List W}, (∀ w ∈ ws, SW k n w) → SWs k (ws.length * (n + 2)) ws
  | [], _ => by simpa using sws_nil
  | w :: ws, h => by
    have := sws_cons (h w List.mem_cons_self) (sws_all (n := n) fun x hx => h x (List.mem_cons_of_mem _ hx))
    rw [List.length_cons, Nat.succ_mul]
    rwa [Nat.add_comm] at this
theorem listText_le (ts : List Str) : (listText ts).length ≤ piled ts + 2 := by
  cases ts with
  | nil => decide
  | cons t r =>
    have h := textFrom_length_pos r 1 (("[" : Str) ++ (if (0 : Nat) > 0 then ", " else "" : String) ++ t) (Nat.succ_pos 0)
    have e : ((("[" : Str) ++ (if (0 : Nat) > 0 then ", " else "" : String) ++ t)).length = 1 + t.length := by
      rw [strLen_append, strLen_append]
      rfl
    have e2 : (listText (t :: r)).length = (textFrom 1 (("[" : Str) ++ (if (0 : Nat) > 0 then ", " else "" : String) ++ t) r).length + 1 := by
      show (textFrom 1 _ r ++ ("]" : Str)).length = _
      rw [strLen_append]
      rfl
    rw [e2, h, e, piled_cons]
    omega
theorem sw_lst' {k n : Nat} {ws : List W} (h : SWs k n ws) : SW (k + 1) (n + 2) (.lst ws) := by
  obtain ⟨ds, h1, h2, h3, h4, h5⟩ := h
  refine ⟨.list ds, by unfold W.dat; rw [h1]; rfl, by simp only [PyData.showable]; exact h2, by simp only [PyData.canLay0]; exact h3, by simp only [PyData.depth]; omega, ?_⟩
  simp only [PyData.shown]
  have := listText_le (PyData.shownAll ds)
  omega
theorem sw_lst {k n m : Nat} {ws : List W} (h : ∀ w ∈ ws, SW k n w) (hm : ws.length ≤ m) : SW (k + 1) (m * (n + 2) + 2) (.lst ws) := (sw_lst' (sws_all h)).mono (Nat.le_refl _) (Nat.add_le_add_right (Nat.mul_le_mul_right _ hm) _)
theorem SX.dx {w : W} (h : SX w) : ∃ d, w.dat = some d ∧ d.canLay0 = true ∧ d.depth ≤ 60 := by
  obtain ⟨k, n, hk, _, d, h1, _, h3, h4, _⟩ := h
  exact ⟨d, h1, h3, by omega⟩
theorem repD_of {w : W} {t : T} {st : FS} (h : SX w) (hs : (∃ xs, w = .lst xs) ∨ ∃ xs, w = .tup xs) (e : datOf st t = w.dat) (e2 : ∀ x st1, bRepr [t] st ≠ .ok x st1) : bReprA [t] st = .ok (.w (.str (shw w))) st := by
  obtain ⟨k, n, hk, hn, d, h1, h2, h3, h4, h5⟩ := h
  have hsq : isSq d = true := by
    rcases hs with ⟨xs, rfl⟩ | ⟨xs, rfl⟩
    · simp only [W.dat, Option.map_eq_some_iff] at h1
      obtain ⟨ds, _, rfl⟩ := h1
      rfl
    · simp only [W.dat, Option.map_eq_some_iff] at h1
      obtain ⟨ds, _, rfl⟩ := h1
      rfl
  have ho : shwOk d = true := by
    unfold shwOk
    rw [hsq, h2, PyData.hasDict_of_canLay d h3, decide_eq_true (by omega), decide_eq_true (by rw [sizeLine_eq]; omega)]
    rfl
  unfold bReprA
  simp only
  unfold bReprD shw
  simp only
  rw [e, h1]
  simp only
  rw [if_pos ho]
theorem rep_wl {xs : List W} {st : FS} (h : SX (.lst xs)) : bReprA [.w (.lst xs)] st = .ok (.w (.str (shw (.lst xs)))) st := repD_of h (Or.inl ⟨_, rfl⟩) rfl (fun _ _ z => by cases z)
theorem rep_wt {xs : List W} {st : FS} (h : SX (.tup xs)) : bReprA [.w (.tup xs)] st = .ok (.w (.str (shw (.tup xs)))) st := repD_of h (Or.inr ⟨_, rfl⟩) rfl (fun _ _ z => by cases z)
theorem rep_nl {xs : List W} {st : FS} (h : SX (.lst xs)) : bReprA [.new (.lst xs)] st = .ok (.w (.str (shw (.lst xs)))) st := repD_of h (Or.inl ⟨_, rfl⟩) rfl (fun _ _ z => by cases z)
theorem rep_bl {b : Bool} {st : FS} : bReprA [.w (.bl b)] st = .ok (.w (.str (if b then "True" else "False"))) st := rfl
theorem rep_non {st : FS} : bReprA [.w .non] st = .ok (.w (.str "None")) st := rfl
end MV

namespace MV
open PySem PySem.Spec PyProof.Rows L2
def IsSq : Bool → Heap → Addr → Array Value → Prop
  | true, h, l, xs => h.IsList l xs
  | false, h, l, xs => h.IsTuple l xs
def IsWk : Bool → Heap → Addr → Addr → Nat → Prop
  | true, h, it, l, i => h.IsListIter it l i
  | false, h, it, l, i => h.IsTupleIter it l i
theorem IsSq.ext {b : Bool} {h h2 : Heap} {l c : Addr} {xs : Array Value} (x : IsSq b h l xs) (k : Heap.ExtBut c h h2) (ne : l ≠ c) : IsSq b h2 l xs := by
  cases b with
  | true => exact Heap.IsList.extBut x k ne
  | false => obtain ⟨o, e, r⟩ := (show h.IsTuple l xs from x); exact ⟨o, k _ _ ne e, r⟩
theorem IsWk.at2 {b : Bool} {h h2 : Heap} {it l : Addr} {i : Nat} (x : IsWk b h it l i) (k : ∀ o, h.get? it = some o → h2.get? it = some o) : IsWk b h2 it l i := by
  cases b with
  | true => obtain ⟨o, e, r⟩ := (show h.IsListIter it l i from x); exact ⟨o, k _ e, r⟩
  | false => obtain ⟨o, e, r⟩ := (show h.IsTupleIter it l i from x); exact ⟨o, k _ e, r⟩
theorem IsWk.ext {b : Bool} {h h2 : Heap} {it l c : Addr} {i : Nat} (x : IsWk b h it l i) (k : Heap.ExtBut c h h2) (ne : it ≠ c) : IsWk b h2 it l i := x.at2 fun o e => k _ _ ne e
theorem IsWk.some {b : Bool} {h : Heap} {it l : Addr} {i : Nat} (x : IsWk b h it l i) : ∃ o vs, h.get? it = some o ∧ o.data = .fields vs := by
  cases b with
  | true => obtain ⟨o, e, _, d⟩ := (show h.IsListIter it l i from x); exact ⟨o, _, e, d⟩
  | false => obtain ⟨o, e, _, d⟩ := (show h.IsTupleIter it l i from x); exact ⟨o, _, e, d⟩
theorem IsWk.lt {b : Bool} {h : Heap} {it l : Addr} {i : Nat} (x : IsWk b h it l i) : it < h.objs.size := by obtain ⟨o, vs, e, _⟩ := x.some; exact Heap.lt_size e
@[simp] def sqW : W → Option (Bool × List W)
  | .lst xs => some (true, xs)
  | .rol xs => some (true, xs)
  | .tup xs => some (false, xs)
  | _ => none
@[simp] def iZx (das : FS → R (List W)) (st : FS) : R Wlk := (das st).bind fun ws st1 => match ws with
  | [w, u] => (match sqW w, sqW u with
    | some (b, xs), some (c, ys) => if b = true ∨ c = false then .ok ⟨zipW xs ys, none⟩ st1 else .stuck
    | _, _ => .stuck)
  | _ => .stuck
end MV

namespace MV
open PySem PySem.Spec PyProof.Rows L2
abbrev EP1 := Ec → List (Str × W) → FS → Prop
@[irreducible] def YE {α : Type} (E : EP1) (r : R α) (P : α → FS → Prop) : Prop := match r with
  | .ok a st => P a st
  | .ex c fs st => E c fs st
  | .stuck => False
def Rq {α : Type} (_ : EP1) (_ : α → FS → Prop) : Type := R α
@[irreducible] def YEX {α : Type} (E : EP1) (P : α → FS → Prop) (r : Rq E P) : Prop := YE (α := α) E r P
section
variable {α β : Type} {r : R α} {P P' : α → FS → Prop} {E E' : EP1} {st : FS} {a : α} {c : Ec} {fs : List (Str × W)}
theorem ye_ok : YE E (.ok a st) P ↔ P a st := by unfold YE; exact Iff.rfl
theorem ye_ex : YE E (.ex c fs st : R α) P ↔ E c fs st := by unfold YE; exact Iff.rfl
theorem ye_stuck : YE E (.stuck : R α) P ↔ False := by unfold YE; exact Iff.rfl
theorem ye_bind {f : α → FS → R β} {P : β → FS → Prop} : YE E (r.bind f) P ↔ YE E r fun a st => YE E (f a st) P := by
  cases r with
  | ok a st => rw [R.bind_ok, ye_ok]
  | ex c fs st => rw [R.bind_ex, ye_ex, ye_ex]
  | stuck => rw [R.bind_stuck, ye_stuck, ye_stuck]
theorem YE.mono (h : YE E r P) (k : ∀ a st, P a st → P' a st) (ke : ∀ c fs st, E c fs st → E' c fs st) : YE E' r P' := by
  cases r with
  | ok a st => rw [ye_ok] at h ⊢; exact k _ _ h
  | ex c fs st => rw [ye_ex] at h ⊢; exact ke _ _ _ h
  | stuck => rw [ye_stuck] at h; exact h.elim
theorem YE.of (h : Yld r P) : YE E r P := by
  obtain ⟨a, st, rfl, h2⟩ := h.ex
  exact ye_ok.mpr h2
@[simp ↓] theorem ye_x : YE E r P = YEX E P r := by unfold YEX; rfl
@[simp] theorem yeX_ok : YEX E P (R.ok a st) = P a st := by rw [← ye_x]; exact propext ye_ok
@[simp] theorem yeX_ex : YEX E P (R.ex c fs st : R α) = E c fs st := by rw [← ye_x]; exact propext ye_ex
@[simp] theorem yeX_bind {f : α → FS → R β} {P : β → FS → Prop} : YEX E P (bindX f r) = YE E r fun a st => YE E (f a st) P := by rw [← ye_x]; exact propext ye_bind
@[simp] theorem yeX_fn {N : Nat} {d : FS → R Fl} {sls : List Sl} {s : List Ob} {P : T → FS → Prop} : YEX E P (fnOf N d sls s) = YE E (d ⟨sls ++ List.replicate (N - sls.length) .no, s⟩) fun f st => match f with
    | .nx => P (.w .non) st
    | .ret t => P t st
    | _ => False := by
  rw [← ye_x]
  apply propext
  unfold fnOf
  cases d ⟨sls ++ List.replicate (N - sls.length) .no, s⟩ with
  | ok f st =>
    rw [ye_ok]
    cases f with
    | nx => exact ye_ok
    | ret t => exact ye_ok
    | brk => exact ye_stuck
    | cnt => exact ye_stuck
  | ex c fs st2 => exact ye_ex.trans ye_ex.symm
  | stuck => exact ye_stuck.trans ye_stuck.symm
@[simp] theorem yeX_back {st : FS} {r : R T} {P : T → FS → Prop} : YEX E P (backR st r) = YE (fun c fs st2 => E c fs ⟨st.r, st2.s⟩) r fun t st2 => match t with
    | .loc _ => False
    | t => P t ⟨st.r, st2.s⟩ := by
  rw [← ye_x]
  apply propext
  cases r with
  | ok t st2 =>
    rw [ye_ok]
    cases t with
    | loc i => exact ye_stuck
    | w w => exact ye_ok
    | new n => exact ye_ok
  | ex c fs st2 => exact Iff.trans (b := E c fs ⟨st.r, st2.s⟩) (by unfold backR; exact ye_ex) (ye_ex (E := fun c fs st2 => E c fs ⟨st.r, st2.s⟩)).symm
  | stuck => exact ye_stuck.trans ye_stuck.symm
@[simp] theorem yeX_backM {st : FS} {n : Nat} {r : R T} {P : T → FS → Prop} : YEX E P (backM st n r) = YE (fun c fs st2 => E c fs ⟨st.r, st2.s⟩) r fun t st2 => t = .w .non ∧ P (.w (.ref n)) ⟨st.r, st2.s⟩ := by
  rw [← ye_x]
  apply propext
  cases r with
  | ok t st2 =>
    rw [ye_ok]
    cases t with
    | loc i => exact ⟨fun h => (ye_stuck.mp h).elim, fun h => nomatch h.1⟩
    | new n => exact ⟨fun h => (ye_stuck.mp h).elim, fun h => nomatch h.1⟩
    | w w =>
      cases w with
      | non => exact ye_ok.trans ⟨fun h => ⟨rfl, h⟩, fun h => h.2⟩
      | _ => exact ⟨fun h => (ye_stuck.mp h).elim, fun h => nomatch h.1⟩
  | ex c fs st2 => exact Iff.trans (b := E c fs ⟨st.r, st2.s⟩) (by unfold backM; exact ye_ex) (ye_ex (E := fun c fs st2 => E c fs ⟨st.r, st2.s⟩)).symm
  | stuck => exact ye_stuck.trans ye_stuck.symm
@[simp] theorem yldX_try {cs : List Ec} {d1 : FS → R Fl} {hs : List (Ec × Option Nat × DH)} {P : Fl → FS → Prop} : YldX P (sTry cs d1 hs st) = YE (fun c fs st1 => c ∈ cs ∧ Yld (sHs hs c fs st1) P) (d1 st) P := by
  rw [← yld_x]
  apply propext
  unfold sTry
  cases d1 st with
  | ok f st => exact yld_ok.trans ye_ok.symm
  | stuck => exact yld_stuck.trans ye_stuck.symm
  | ex c fs st1 =>
    simp only
    rw [ye_ex]
    by_cases h : c ∈ cs
    · rw [if_pos h]; exact ⟨fun q => ⟨h, q⟩, fun q => q.2⟩
    · rw [if_neg h]; exact ⟨fun q => (yld_stuck.mp q).elim, fun q => absurd q.1 h⟩
@[simp] theorem yeX_try {cs : List Ec} {d1 : FS → R Fl} {hs : List (Ec × Option Nat × DH)} {P : Fl → FS → Prop} : YEX E P (sTry cs d1 hs st) = YE (fun c fs st1 => c ∈ cs ∧ YE E (sHs hs c fs st1) P) (d1 st) P := by
  rw [← ye_x]
  apply propext
  unfold sTry
  cases d1 st with
  | ok f st => exact ye_ok.trans ye_ok.symm
  | stuck => exact ye_stuck.trans ye_stuck.symm
  | ex c fs st1 =>
    simp only
    rw [ye_ex]
    by_cases h : c ∈ cs
    · rw [if_pos h]; exact ⟨fun q => ⟨h, q⟩, fun q => q.2⟩
    · rw [if_neg h]; exact ⟨fun q => (ye_stuck.mp q).elim, fun q => absurd q.1 h⟩
end
end MV



namespace MV
open PySem PySem.Spec PyProof.Rows L2
abbrev Cx.kp (X : Cx) (a : Addr) (oe : Obj) : Cx := X.tr ((a, oe) :: X.pn) X.xe
end MV

namespace MV
open PySem PySem.Spec PyProof.Rows L2
@[simp] def keptR (i : Nat) (k : FS → R Fl) : R Fl → R Fl
  | .ok .nx st => k (st.setr i .no)
  | .ok f st => .ok f (st.setr i .no)
  | _ => .stuck
@[simp] def clrF : R Fl → R Fl
  | .ok (.ret t) st => .ok (.ret t) ⟨[], st.s⟩
  | r => r
section
variable {Y : Cx} {Wx : MX} {cs : List Ec} {ts us : List Tn} {a : Addr} {oe : Obj} {c e : Ec} {d : Option Addr} {i j : Nat} {n f : Str} {p p1 p2 pos : Pos}
@[simp] def eStk (st : FS) : R T := .stuck
end
end MV

namespace MV
open PySem PySem.Spec PyProof.Rows L2 PySem.W
@[simp] def eXisN (i : Nat) (st : FS) : R T := match st.r[i]? with
  | some (.val .non) => .ok (.w (.bl false)) st
  | _ => .stuck
end MV

set_option maxHeartbeats 1000000

namespace MV
open PySem PySem.Spec PyProof.Rows L2
variable {s0 : List Ob}
def SubN (c marks : List Int) : Prop := ∃ r : List Nat, (c.map Int.natAbs ++ r).Perm (marks.map Int.natAbs)
theorem SubN.mem {c marks : List Int} (h : SubN c marks) {x : Int} (hx : x ∈ c) : ∃ y ∈ marks, y.natAbs = x.natAbs := by
  obtain ⟨r, h⟩ := h
  have : x.natAbs ∈ marks.map Int.natAbs := h.mem_iff.mp (List.mem_append_left _ (List.mem_map_of_mem hx))
  obtain ⟨y, h1, h2⟩ := List.mem_map.mp this
  exact ⟨y, h1, h2⟩
theorem SubN.nil {marks : List Int} : SubN [] marks := ⟨marks.map Int.natAbs, List.Perm.refl _⟩
structure Far (l : List Int) : Prop where
  u : (l.map Int.natAbs).Nodup
  b : ∀ x ∈ l, 1 ≤ x.natAbs ∧ x.natAbs ≤ 1000000000000
end MV


namespace LW
open PySem PySem.Spec PyProof.Rows L2 MV
local macro_rules
  | `(tactic| walk_at "Y") => `(tactic| simp -dsimp -implicitDefEqProofs (disch := first | assumption | (with_reducible exact dx_ints) | omega) [-Bool.exists_bool, -Bool.forall_bool, -getElem?_pos, List.length_set, List.length_cons, List.length_nil, List.set_cons_zero, List.set_cons_succ, List.getElem?_cons_zero, List.getElem?_cons_succ, List.replicate, List.cons_append, List.nil_append, own_nil, own_w, own_loc, own_bor, own_own, lsz, lsz2, sm62, mul_s, ile_t, ile_f, ilt_t, ilt_f, nle_t, nlt_t, ieq_f, log_s, rep_wl, rep_wt, rep_nl, rep_bl, rep_non, eqD_ww, eqD_wn, eqD_nw, eqD_nn, nB])
  | `(tactic| wp_walk using $ts,*) => `(tactic| simp -dsimp -implicitDefEqProofs (disch := first | assumption | (with_reducible exact dx_ints) | omega) [-Bool.exists_bool, -Bool.forall_bool, -getElem?_pos, List.length_set, List.length_cons, List.length_nil, List.set_cons_zero, List.set_cons_succ, List.getElem?_cons_zero, List.getElem?_cons_succ, List.replicate, List.cons_append, List.nil_append, own_nil, own_w, own_loc, own_bor, own_own, lsz, lsz2, sm62, mul_s, ile_t, ile_f, ilt_t, ilt_f, nle_t, nlt_t, ieq_f, log_s, rep_wl, rep_wt, rep_nl, rep_bl, rep_non, eqD_ww, eqD_wn, eqD_nw, eqD_nn, nB, $[$ts:term],*])
variable {s0 : List Ob}
theorem lf_map9 {tb : TgB} {dc : FS → R Bool} {de : FS → R W} {vs : List Nat} {P : T → FS → Prop} {st1 : FS} {α : Type} {xs : List α} {e : α → W} (p : α → Bool) (hz : xs.length ≤ 16777216)
    (h : ∀ x ∈ xs, ∃ st2, setB tb (e x) (wS vs st1) = some st2 ∧ Yld (dc st2) fun c st3 => c = p x ∧ (p x = true → Yld (de st3) fun y st4 => wS vs st4 = wS vs st1 ∧ y = e x) ∧ (p x = false → wS vs st3 = wS vs st1))
    (k : P (.new (.lst ((xs.filter p).map e))) (wS vs st1)) : LcOk tb dc de vs P ⟨xs.map e, none⟩ st1 := by
  refine lp_map (fun x => if p x = true then some (e x) else none) hz (fun x hx => ?_) ?_
  · obtain ⟨st2, h1, h2⟩ := h x hx
    refine ⟨st2, h1, h2.mono fun c st3 ⟨q1, q2, q3⟩ => ?_⟩
    subst q1
    split
    · rename_i hc
      exact (q2 hc).mono fun y st4 r => ⟨r.1, by rw [r.2]⟩
    · rename_i hc
      exact ⟨q3 (by simpa using hc), rfl⟩
  · have e2 : xs.filterMap (fun x => if p x = true then some (e x) else none) = (xs.filter p).map e := by
      clear h k hz
      induction xs with
      | nil => rfl
      | cons x xs ih =>
        by_cases q : p x = true
        · rw [List.filterMap_cons_some (b := e x) (by simp [q]), ih, List.filter_cons_of_pos q, List.map_cons]
        · rw [List.filterMap_cons_none (by simp [q]), ih, List.filter_cons_of_neg q]
    rw [e2]
    exact k
theorem atW_nat9 {α : Type} {xs : List α} {k : Nat} {x : α} (h : xs[k]? = some x) : atW xs (k : Int) = some x := by
  have hk := (List.getElem?_eq_some_iff.mp h).1
  unfold atW
  unfold atI ixN
  rw [if_pos (by omega), if_pos (by omega)]
  show xs[((k : Int)).toNat]? = _
  exact h
def ixC : Ec → Nat
  | .noMarks => 0 | .noPlan => 1 | .noText => 2 | .noKnot => 3 | .noFresh => 4 | .noBound => 5 | .noGrow => 6 | .notWider => 7 | .tooFar => 8
  | .isPut => 9 | .notOn => 10 | .isRule => 11 | .noRule => 12 | .tooMany => 13 | .noPut => 14 | .noDeed => 15 | .isBroken => 16 | .hasSome => 17
def unW (k : Nat) : List W := [.lst [.bl (decide (k < 9)), .bl (decide (9 ≤ k ∧ k < 13)), .bl (decide (13 ≤ k ∧ k < 16))], .bl (decide (8 < k)), .lst [.int (k : Int)]]
def kdW (k : Nat) : List W := (List.range 18).map fun i => W.bl (decide (i = k))
theorem kd_at {k i : Nat} (h : i < 18) : atW (kdW k) (i : Int) = some (.bl (decide (i = k))) := by
  refine atW_nat9 ?_
  unfold kdW
  rw [List.getElem?_map, List.getElem?_range h]
  rfl
theorem kd_fil {k : Nat} (h : k < 18) : (List.range 18).filter (fun i => decide (i = k)) = [k] := by
  have : ∀ k < 18, (List.range 18).filter (fun i => decide (i = k)) = [k] := by decide
  exact this k h
theorem under8 {c : Ec} {k : Nat} {ns : List Str} {ws : List W} {s : List Ob} {so : W} (hk : k < 18) (hl : xsub c (.bi .lookup) = decide (8 < k)) :
    Yld (K__law_under_8 ⟨[.val (.exn c ns ws), .val so, .val (.lst (kdW k)), .no], s⟩) fun f st => f = .ret (.w (.tup [so, .bl (decide (8 < k)), .lst [.int (k : Int)]])) ∧ st.s = s := by
  have hc : c ∈ [Ec.hasSome, .isBroken, .isPut, .isRule, .noBound, .noDeed, .noFresh, .noGrow, .noKnot, .noMarks, .noPlan, .noPut, .noRule, .noText, .notOn, .notWider, .tooFar, .tooMany] := by cases c <;> decide
  have hkl : (kdW k).length = 18 := by unfold kdW; simp
  have hkz : ((18 : Nat) : Int) = 18 := rfl
  unfold K__law_under_8
  generalize hL : kdW k = L at *
  simp -dsimp -implicitDefEqProofs (disch := first | assumption | (with_reducible exact dx_ints) | omega) [-Bool.exists_bool, -Bool.forall_bool, -getElem?_pos, List.length_set, List.length_cons, List.length_nil, List.set_cons_zero, List.set_cons_succ, List.getElem?_cons_zero, List.getElem?_cons_succ, List.replicate, List.cons_append, List.nil_append, own_nil, own_w, own_loc, own_bor, own_own, lsz, lsz2, sm62, mul_s, ile_t, ile_f, ilt_t, ilt_f, nle_t, nlt_t, ieq_f, log_s, rep_wl, rep_wt, rep_nl, rep_bl, rep_non, eqD_ww, eqD_wn, eqD_nw, eqD_nn, nB, hc, hl, -xsub]
  refine lc_x ?_
  wp_walk using hkl, hkz
  have hx : intsW 0 18 = (List.range 18).map fun i : Nat => W.int (i : Int) := rfl
  rw [hx]
  refine lf_map9 (xs := List.range 18) (e := fun i : Nat => W.int (i : Int)) (fun i => decide (i = k)) (by decide) (fun i hi => ⟨_, rfl, ?_⟩) ?_
  · have hi := List.mem_range.mp hi
    have ha := kd_at (k := k) hi
    rw [hL] at ha
    by_cases q : i = k
    · subst q
      wp_walk using ha
    · wp_walk using ha, q
  rw [kd_fil hk]
  simp -dsimp -implicitDefEqProofs (disch := first | assumption | (with_reducible exact dx_ints) | omega) [-Bool.exists_bool, -Bool.forall_bool, -getElem?_pos, List.length_set, List.length_cons, List.length_nil, List.set_cons_zero, List.set_cons_succ, List.getElem?_cons_zero, List.getElem?_cons_succ, List.replicate, List.cons_append, List.nil_append, own_nil, own_w, own_loc, own_bor, own_own, lsz, lsz2, sm62, mul_s, ile_t, ile_f, ilt_t, ilt_f, nle_t, nlt_t, ieq_f, log_s, rep_wl, rep_wt, rep_nl, rep_bl, rep_non, eqD_ww, eqD_wn, eqD_nw, eqD_nn, nB, hc, hl, -xsub]
theorem under_yld {c : Ec} {ns : List Str} {ws : List W} {s : List Ob} : Yld (F__law_under [.val (.exn c ns ws)] s) fun t st => t = .w (.tup (unW (ixC c))) ∧ st.s = s := by
  have hc : c ∈ [Ec.hasSome, .isBroken, .isPut, .isRule, .noBound, .noDeed, .noFresh, .noGrow, .noKnot, .noMarks, .noPlan, .noPut, .noRule, .noText, .notOn, .notWider, .tooFar, .tooMany] := by cases c <;> decide
  have fin := fun (so : W) (hk : ixC c < 18) hl => under8 (c := c) (k := ixC c) (ns := ns) (ws := ws) (s := s) (so := so) hk hl
  unfold F__law_under D__law_under
  wp_walk using hc
  rw [← yld_x]
  refine Yld.mono (P := fun f st => f = .ret (.w (.tup (unW (ixC c)))) ∧ st.s = s) ?_ ?_
  · cases c <;> exact fin _ (by decide) rfl
  · rintro f st ⟨rfl, hs⟩
    exact ⟨rfl, hs⟩
def errs (a : Int) (b : W) (z : Str) : List W := [.exn .noMarks [] [], .exn .noPlan [] [], .exn .noText [] [], .exn .noKnot ["number"] [.int a], .exn .noFresh ["lowest"] [.int a], .exn .noBound ["high", "low"] [.int (a - 1), .int a], .exn .noGrow [] [],
  .exn .notWider ["cap"] [.int a], .exn .tooFar ["cap"] [.int a], .exn .isPut ["name"] [.int a], .exn .notOn ["mark"] [b], .exn .isRule ["word"] [.str z], .exn .noRule ["word"] [.str z],
  .exn .tooMany ["many"] [.int a], .exn .noPut [] [], .exn .noDeed [] [], .exn .isBroken [] [], .exn .hasSome [] []]
theorem errs_at {a : Int} {b : W} {z : Str} : ∀ k < 18, ∃ c ns ws, (errs a b z)[k]? = some (.exn c ns ws) ∧ ixC c = k := by
  intro k hk
  rcases (show k = 0 ∨ k = 1 ∨ k = 2 ∨ k = 3 ∨ k = 4 ∨ k = 5 ∨ k = 6 ∨ k = 7 ∨ k = 8 ∨ k = 9 ∨ k = 10 ∨ k = 11 ∨ k = 12 ∨ k = 13 ∨ k = 14 ∨ k = 15 ∨ k = 16 ∨ k = 17 by omega) with rfl | rfl | rfl | rfl | rfl | rfl | rfl | rfl | rfl | rfl | rfl | rfl | rfl | rfl | rfl | rfl | rfl | rfl
  all_goals exact ⟨_, _, _, rfl, rfl⟩
theorem un_dx {k : Nat} : DX (.tup (unW k)) := ⟨3, by omega, dw_tup fun x hx => by
  simp only [unW, List.mem_cons, List.not_mem_nil, or_false] at hx
  rcases hx with rfl | rfl | rfl
  · refine dw_lst fun y hy => ?_
    simp only [List.mem_cons, List.not_mem_nil, or_false] at hy
    rcases hy with rfl | rfl | rfl <;> (unfold DW; trivial)
  · unfold DW; trivial
  · refine dw_lst fun y hy => ?_
    rw [List.mem_singleton] at hy
    subst hy
    unfold DW
    trivial⟩
theorem hF (ns : List Int) (hns : ns.length ≤ 63) : ∃ st, F_law [.val (.rol (ns.map .int))] [] = .ok (.w (.bl true)) st := by
  have h : Yld (F_law [.val (.rol (ns.map .int))] []) fun t st => t = .w (.bl true) := by
    unfold F_law D_law
    walk_at "Y"
    refine yx (begun_yld hns) ?_
    rintro _ st ⟨hs, cs, rfl, hc1, hc2⟩
    have hT := tape_new (s := st.s) hc1 hc2
    rw [hs] at hT
    wp_walk using hs
    simp only [List.nil_append, List.length_nil] at hT
    refine for_x ?_
    walk_at "Y"
    refine fo_range (fun j st => ∃ (a2 a3 a4 a5 a6 a7 a8 a9 : Sl) (s' : List Ob), st = ⟨[.val (.rol (ns.map .int)), .val (.ref 0), a2, a3, a4, a5, a6, a7, a8, a9], s'⟩ ∧ Tape s' s' 0 (100 * j)) ⟨_, _, _, _, _, _, _, _, _, rfl, hT.here.le (by omega)⟩ ?_ ?_
    · rintro j hj _ ⟨a2, a3, a4, a5, a6, a7, a8, a9, s', rfl, hT⟩
      wp_walk using B_law_2
      refine yx (draw_s hT (by omega) (by omega) (by omega)) ?_
      rintro _ ⟨sr, s2⟩ ⟨r1, rfl, r1_0, r1_1, hT⟩
      simp only at hT
      walk_at "Y"
      refine yx (draw_s hT (by omega) (by omega) (by omega)) ?_
      rintro _ ⟨sr, s3⟩ ⟨r2, rfl, r2_0, r2_1, hT⟩
      simp only at hT
      walk_at "Y"
      refine yx (pick_yld hT (by omega) (by simp) (by simp)) ?_
      rintro _ ⟨sr, s4⟩ ⟨b, rfl, hb, hT⟩
      simp only at hT
      have hbx : b = .non ∨ ∃ i : Int, b = .int i ∧ i.natAbs ≤ 10000000000 := by
        simp only [List.mem_cons, List.not_mem_nil, or_false] at hb
        rcases hb with h | h | h | h | h
        · exact Or.inl h
        all_goals exact Or.inr ⟨_, h, by omega⟩
      clear hb
      have hab : (2 + r1).natAbs ≤ 100 ∧ (2 + r1 - 1).natAbs ≤ 100 := by omega
      generalize 2 + r1 = a at *
      walk_at "Y"
      refine yx (pick_yld hT (by omega) (by simp) (by simp)) ?_
      rintro _ ⟨sr, s5⟩ ⟨v, rfl, hv, hT⟩
      simp only at hT
      obtain ⟨z, rfl, hz⟩ : ∃ z : Str, v = .str z ∧ SW 0 400 (.str z) := by
        simp only [List.mem_cons, List.not_mem_nil, or_false] at hv
        rcases hv with h | h | h | h
        all_goals exact ⟨_, h, ⟨.str _, rfl, by decide +kernel, by decide +kernel, by decide +kernel, by decide +kernel⟩⟩
      clear hv
      wp_walk using K_law_6, K_law_7
      rw [← errs]
      have hbs : ∃ st9 : FS, True := ⟨⟨[], []⟩, trivial⟩
      generalize hE : errs a b z = E
      refine for_x ?_
      walk_at "Y"
      refine fo_range (fun i st => ∃ (a7 a8 : Sl), st = ⟨[.val (.rol (ns.map .int)), .val (.ref 0), .val (.int (j : Int)), .val (.int a), .val b, .val (.str z), .val (.lst E), a7, a8, a9], s5⟩) ⟨_, _, rfl⟩ ?_ ?_
      · rintro i hi _ ⟨a7, a8, rfl⟩
        have hi : i < 18 := by omega
        obtain ⟨c, nn, ww, e1, e2⟩ := errs_at (a := a) (b := b) (z := z) i hi
        rw [hE] at e1
        have ha := atW_nat9 e1
        have y := fun s => under_yld (c := c) (ns := nn) (ws := ww) (s := s)
        have p6 : pGt (i : Int) 8 = decide (8 < i) := by unfold pGt; exact decide_eq_decide.mpr (by omega)
        have d1 := un_dx (k := i)
        have w1 := weq_rx d1
        have e3 : ∀ b1 b2 b3 : Bool, b1 = decide (i < 9) → b2 = decide (9 ≤ i ∧ i < 13) → b3 = decide (13 ≤ i ∧ i < 16) → unW i = [.lst [.bl b1, .bl b2, .bl b3], .bl (decide (8 < i)), .lst [.int (i : Int)]] := fun b1 b2 b3 h1 h2 h3 => by rw [h1, h2, h3]; rfl
        rw [e2] at y
        clear e2
        generalize hb8 : decide (8 < i) = b8 at *
        rcases (show i < 9 ∨ (9 ≤ i ∧ i < 13) ∨ (13 ≤ i ∧ i < 16) ∨ 16 ≤ i by omega) with q | q | q | q
        · have p1 : pLt (i : Int) 9 = true := by unfold pLt; exact decide_eq_true (by omega)
          have p2 : pLe 9 (i : Int) = false := by unfold pLe; exact decide_eq_false (by omega)
          have p4 : pLe 13 (i : Int) = false := by unfold pLe; exact decide_eq_false (by omega)
          rw [e3 true false false (decide_eq_true (by omega)).symm (decide_eq_false (by omega)).symm (decide_eq_false (by omega)).symm] at y d1 w1
          wp_walk using B_law_8, p1, p2, p4, p6, ha
          refine yx (y _) ?_
          rintro _ ⟨sr, s6⟩ ⟨rfl, hs6⟩
          simp only at hs6
          subst hs6
          wp_walk using p6, d1, w1
        · have p1 : pLt (i : Int) 9 = false := by unfold pLt; exact decide_eq_false (by omega)
          have p2 : pLe 9 (i : Int) = true := by unfold pLe; exact decide_eq_true (by omega)
          have p3 : pLt (i : Int) 13 = true := by unfold pLt; exact decide_eq_true (by omega)
          have p4 : pLe 13 (i : Int) = false := by unfold pLe; exact decide_eq_false (by omega)
          rw [e3 false true false (decide_eq_false (by omega)).symm (decide_eq_true (by omega)).symm (decide_eq_false (by omega)).symm] at y d1 w1
          wp_walk using B_law_8, p1, p2, p3, p4, p6, ha
          refine yx (y _) ?_
          rintro _ ⟨sr, s6⟩ ⟨rfl, hs6⟩
          simp only at hs6
          subst hs6
          wp_walk using p6, d1, w1
        · have p1 : pLt (i : Int) 9 = false := by unfold pLt; exact decide_eq_false (by omega)
          have p2 : pLe 9 (i : Int) = true := by unfold pLe; exact decide_eq_true (by omega)
          have p3 : pLt (i : Int) 13 = false := by unfold pLt; exact decide_eq_false (by omega)
          have p4 : pLe 13 (i : Int) = true := by unfold pLe; exact decide_eq_true (by omega)
          have p5 : pLt (i : Int) 16 = true := by unfold pLt; exact decide_eq_true (by omega)
          rw [e3 false false true (decide_eq_false (by omega)).symm (decide_eq_false (by omega)).symm (decide_eq_true (by omega)).symm] at y d1 w1
          wp_walk using B_law_8, p1, p2, p3, p4, p5, p6, ha
          refine yx (y _) ?_
          rintro _ ⟨sr, s6⟩ ⟨rfl, hs6⟩
          simp only at hs6
          subst hs6
          wp_walk using p6, d1, w1
        · have p1 : pLt (i : Int) 9 = false := by unfold pLt; exact decide_eq_false (by omega)
          have p2 : pLe 9 (i : Int) = true := by unfold pLe; exact decide_eq_true (by omega)
          have p3 : pLt (i : Int) 13 = false := by unfold pLt; exact decide_eq_false (by omega)
          have p4 : pLe 13 (i : Int) = true := by unfold pLe; exact decide_eq_true (by omega)
          have p5 : pLt (i : Int) 16 = false := by unfold pLt; exact decide_eq_false (by omega)
          rw [e3 false false false (decide_eq_false (by omega)).symm (decide_eq_false (by omega)).symm (decide_eq_false (by omega)).symm] at y d1 w1
          wp_walk using B_law_8, p1, p2, p3, p4, p5, p6, ha
          refine yx (y _) ?_
          rintro _ ⟨sr, s6⟩ ⟨rfl, hs6⟩
          simp only at hs6
          subst hs6
          wp_walk using p6, d1, w1
      · rintro _ ⟨a7, a8, rfl⟩
        have g3 : atW E 3 = some (.exn .noKnot ["number"] [.int a]) := by
          show atW E ((3 : Nat) : Int) = _
          exact atW_nat9 (by rw [← hE]; rfl)
        have g4 : atW E 4 = some (.exn .noFresh ["lowest"] [.int a]) := by
          show atW E ((4 : Nat) : Int) = _
          exact atW_nat9 (by rw [← hE]; rfl)
        have g5 : atW E 5 = some (.exn .noBound ["high", "low"] [.int (a - 1), .int a]) := by
          show atW E ((5 : Nat) : Int) = _
          exact atW_nat9 (by rw [← hE]; rfl)
        have g7 : atW E 7 = some (.exn .notWider ["cap"] [.int a]) := by
          show atW E ((7 : Nat) : Int) = _
          exact atW_nat9 (by rw [← hE]; rfl)
        have g8 : atW E 8 = some (.exn .tooFar ["cap"] [.int a]) := by
          show atW E ((8 : Nat) : Int) = _
          exact atW_nat9 (by rw [← hE]; rfl)
        have g9 : atW E 9 = some (.exn .isPut ["name"] [.int a]) := by
          show atW E ((9 : Nat) : Int) = _
          exact atW_nat9 (by rw [← hE]; rfl)
        have g10 : atW E 10 = some (.exn .notOn ["mark"] [b]) := by
          show atW E ((10 : Nat) : Int) = _
          exact atW_nat9 (by rw [← hE]; rfl)
        have g11 : atW E 11 = some (.exn .isRule ["word"] [.str z]) := by
          show atW E ((11 : Nat) : Int) = _
          exact atW_nat9 (by rw [← hE]; rfl)
        have g12 : atW E 12 = some (.exn .noRule ["word"] [.str z]) := by
          show atW E ((12 : Nat) : Int) = _
          exact atW_nat9 (by rw [← hE]; rfl)
        have g13 : atW E 13 = some (.exn .tooMany ["many"] [.int a]) := by
          show atW E ((13 : Nat) : Int) = _
          exact atW_nat9 (by rw [← hE]; rfl)
        have hhl : ¬ Str.ofString "high" = Str.ofString "low" := by decide +kernel
        wp_walk using K_law_12, g3, g4, g5, g7, g8, g9, g10, g11, g12, g13, hhl
        have hsw : ∀ w ∈ [W.int a, .int a, .int a, .int (a - 1), .int a, .int a, .int a, b, .str z, .str z, .int a], SW 0 400 w := fun w hw => by
          have i1 : SW 0 400 (.int a) := (sw_int (by omega)).mono (Nat.le_refl _) (by omega)
          have i2 : SW 0 400 (.int (a - 1)) := (sw_int (by omega)).mono (Nat.le_refl _) (by omega)
          have i3 : SW 0 400 b := by
            rcases hbx with rfl | ⟨i, rfl, hi⟩
            · exact ⟨.none, rfl, rfl, rfl, Nat.le_refl _, by decide +kernel⟩
            · exact (sw_int (by omega)).mono (Nat.le_refl _) (by omega)
          have i4 : SW 0 400 (.str z) := hz
          simp only [List.mem_cons, List.not_mem_nil, or_false] at hw
          rcases hw with rfl | rfl | rfl | rfl | rfl | rfl | rfl | rfl | rfl | rfl | rfl <;> assumption
        have hsx : SX (.lst [W.int a, .int a, .int a, .int (a - 1), .int a, .int a, .int a, b, .str z, .str z, .int a]) := ⟨1, 11 * (400 + 2) + 2, by omega, by omega, sw_lst (m := 11) hsw (by simp)⟩
        have r1 := fun st => rep_wl (st := st) hsx
        have r2 := fun st => rep_nl (st := st) hsx
        generalize shw (.lst [W.int a, .int a, .int a, .int (a - 1), .int a, .int a, .int a, b, .str z, .str z, .int a]) = sh at *
        wp_walk using r1, r2
        exact ⟨_, _, _, _, _, _, _, _, _, ⟨⟨rfl, rfl, rfl, rfl, rfl, rfl, rfl, rfl⟩, rfl⟩, hT.here.le (by omega)⟩
    · rintro _ ⟨a2, a3, a4, a5, a6, a7, a8, a9, s', rfl, hT⟩
      wp_walk using K_law_16
  obtain ⟨t, st, h1, h2⟩ := h.ex
  exact ⟨st, by rw [h1, h2]⟩
end LW

theorem PySem.Challenge.cw_mostclauses_k99_refusals_made_holds : PySem.Challenge.rw_mostclauses_k99_refusals_made.Holds := by
  exact MV.law_end fun ns hl hb => LW.hF ns hl


